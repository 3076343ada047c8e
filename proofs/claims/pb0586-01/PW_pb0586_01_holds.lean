import PyProof.Rows.All
import Wide.All
import OpenK.AllK
import Wide.FinOn
import PyProof.IsiH_list
import Lean
import PySem.Challenge.RW_pb0586_01
set_option maxRecDepth 1000000
set_option Elab.async false
set_option linter.all false
set_option bootstrap.genMatcherCode false
set_option compiler.extract_closed false
set_option genSizeOfSpec false
set_option tactic.hygienic false
namespace Mine
section
set_option backward.match.sparseCases false
theorem az{P:Prop}(h:¬P->False):P:=Classical.byContradiction h
inductive A where
 |v (i:Nat)|n (k:Nat)|a (x y:A)|s (x y:A)|m (k:Nat) (x:A)|r (x:A) (k:Nat)|c (x:A)
 |le (x y:A)|lt (x y:A)|eq (x y:A)|Le (x y:A)|Lt (x y:A)|Eq (x y:A)|no (x:A)|d (x y:A)
namespace A
noncomputable section
noncomputable def G9{α:Type}(z:α):List α->Nat->α
 | []=>fun ψ=>z
 |x::l=>fun i=>Nat.rec x (fun i ψ=>G9 z l i) i
section
variable(xs:List Nat)(zs:List Int)
noncomputable def N:A->Nat
 | .v i=>G9 0 xs i
 | .n k=>k
 | .a x y=>x.N+y.N
 | .m k x=>k*x.N
 | .r x k=>x.N*k
 |_=>0
noncomputable def I:A->Int
 | .v i=>G9 0 zs i
 | .n k=>k
 | .a x y=>x.I+y.I
 | .s x y=>x.I-y.I
 | .m k x=>k*x.I
 | .r x k=>x.I*k
 | .c x=>(x.N xs:Nat)
 |_=>0
def P:A->Prop
 | .le x y=>x.N xs<=y.N xs
 | .lt x y=>x.N xs<y.N xs
 | .eq x y=>x.N xs=y.N xs
 | .Le x y=>x.I xs zs<=y.I xs zs
 | .Lt x y=>x.I xs zs<y.I xs zs
 | .Eq x y=>x.I xs zs=y.I xs zs
 | .no x=>¬x.P
 | .d x y=>x.P/\y.P
 |_=>False
def imp(g:A):List A->Prop
 | []=>g.P xs zs
 |h::hs=>h.P xs zs->imp g hs
noncomputable def ev(k:Nat):Int:=if k=0 then 1 else if k % 2=1 then(G9 0 xs (k/2):Nat) else G9 0 zs (k/2-1)
end
noncomputable def dot(e:Nat->Int):List Int->Nat->Int
 | []=>fun ψ=>0
 |w::l=>fun i=>w*e i+dot e l (i+1)
noncomputable def add:List Int->List Int->List Int
 | []=>fun l=>l
 |u::l=>fun k=>List.rec (u::l) (fun w k ψ=>(u+w)::add l k) k
noncomputable def scale(k:Int):List Int->List Int
 | []=> []
 |w::l=>(k*w)::scale k l
noncomputable def unit:Nat->List Int
 |0=> [1]
 |k+1=>0::unit k
noncomputable def nat:A->List Int
 | .v i=>unit (2*i+1)
 | .n k=> [(k:Int)]
 | .a x y=>add x.nat y.nat
 | .m k x=>scale k x.nat
 | .r x k=>scale k x.nat
 |_=> []
noncomputable def int:A->List Int
 | .v i=>unit (2*i+2)
 | .n k=> [(k:Int)]
 | .a x y=>add x.int y.int
 | .s x y=>add x.int (scale (-1) y.int)
 | .m k x=>scale k x.int
 | .r x k=>scale k x.int
 | .c x=>x.nat
 |_=> []
noncomputable def mW(k:Int)(x y:List Int):List Int:=add [k] (add y (scale (-1) x))
noncomputable def Q7:A->List (List Int)
 | .le x y=> [mW (-1) y.nat x.nat]
 | .lt x y=> [mW 0 y.nat x.nat]
 | .Le x y=> [mW (-1) y.int x.int]
 | .Lt x y=> [mW 0 y.int x.int]
 |_=> []
noncomputable def pos:A->List (List Int)
 | .le x y=> [mW 0 x.nat y.nat]
 | .lt x y=> [mW (-1) x.nat y.nat]
 | .eq x y=> [mW 0 x.nat y.nat,mW 0 y.nat x.nat]
 | .Le x y=> [mW 0 x.int y.int]
 | .Lt x y=> [mW (-1) x.int y.int]
 | .Eq x y=> [mW 0 x.int y.int,mW 0 y.int x.int]
 | .no x=>Q7 x
 | .d x y=>x.pos++y.pos
 |_=> []
noncomputable def neg:A->List (List (List Int))
 | .le x y=> [[mW (-1) y.nat x.nat]]
 | .lt x y=> [[mW 0 y.nat x.nat]]
 | .eq x y=> [[mW (-1) x.nat y.nat], [mW (-1) y.nat x.nat]]
 | .Le x y=> [[mW (-1) y.int x.int]]
 | .Lt x y=> [[mW 0 y.int x.int]]
 | .Eq x y=> [[mW (-1) x.int y.int], [mW (-1) y.int x.int]]
 | .no x=> [x.pos]
 | .d x y=>x.neg++y.neg
 |_=> [[]]
noncomputable def comb:List Nat->List (List Int)->List Int
 | []=>fun ψ=> []
 |k::ks=>fun ls=>List.rec [] (fun l ls ψ=>add (scale k l) (comb ks ls)) ls
noncomputable def zero:List Int->Bool
 | []=>true
 |w::l=>w==0&&zero l
noncomputable def bad(l:List Int):Bool:=List.rec false (fun w l ψ=>decide (w<0)&&zero l) l
noncomputable def Cr(hs:List (List Int)):List (List (List Int))->List (List Nat)->Bool
 | []=>fun ψ=>true
 |q::qs=>fun ks=>List.rec false (fun k ks ψ=>bad (comb k (q++hs))&&Cr hs qs ks) ks
noncomputable def facts:List A->List (List Int)
 | []=> [unit 1,unit 3,unit 5,unit 7,unit 9,unit 11,unit 13,unit 15,unit 17,unit 19,unit 21,unit 23,unit 25,unit 27,unit 29,unit 31]
 |h::hs=>h.pos++facts hs
section
variable {e:Nat->Int}
theorem q1(u w x y z:Int):(u+w)*z+(x+y)=u*z+x+(w*z+y):=by rw [Int.add_mul];omega
theorem nJ:∀(p q:List Int) (i:Nat),dot e (add p q) i=dot e p i+dot e q i
 | [],q,i=>(Int.zero_add _).symm
 |u::l, [],i=>(Int.add_zero _).symm
 |u::l,w::k,i=>(congrArg ((u+w)*e i+ ·) (nJ l k (i+1))).trans (q1 _ _ _ _ _)
theorem i7(k:Int):∀(p:List Int) (i:Nat),dot e (scale k p) i=k*dot e p i
 | [],i=>(Int.mul_zero _).symm
 |u::l,i=>(congrArg (k*u*e i+ ·) (i7 k l (i+1))).trans ((congrArg (· +_) (Int.mul_assoc k u (e i))).trans (Int.mul_add k _ _).symm)
theorem yK(k:Int)(i:Nat):dot e [k] i=k*e i:=Int.add_zero _
theorem sO:∀(k i:Nat),dot e (unit k) i=e (i+k)
 |0,i=>(yK 1 i).trans (Int.one_mul _)
 |k+1,i=>by
  show 0*e i+dot e (unit k) (i+1)=_;rw [sO k,Int.zero_mul,Int.zero_add,Nat.add_right_comm];rfl
theorem Es(k:Int)(x y:List Int):dot e (mW k x y) 0=k*e 0+(dot e y 0+ -1*dot e x 0):=by
 unfold mW;rw [nJ,nJ,i7,yK]
end
section
variable {xs:List Nat}{zs:List Int}
theorem I7(i:Nat):ev xs zs (0+(2*i+1))=(G9 0 xs i:Nat):=by
 unfold ev;rw [if_neg (by omega),if_pos (by omega),show(0+(2*i+1))/2=i by omega]
theorem OZ(i:Nat):ev xs zs (0+(2*i+2))=G9 0 zs i:=by
 unfold ev;rw [if_neg (by omega),if_neg (by omega),show(0+(2*i+2))/2-1=i by omega]
theorem LU(k:Int):dot (ev xs zs) [k] 0=k:=(yK k 0).trans (Int.mul_one k)
theorem gz(x:A):dot (ev xs zs) x.nat 0=(x.N xs:Nat):=by
 induction x with
 |v i=>exact(sO _ _).trans (I7 i)
 |n k=>exact LU _
 |a x y hx hy=>exact(nJ _ _ _).trans (by rw [hx,hy];rfl)
 |m k x hx=>exact(i7 _ _ _).trans (by rw [hx];rfl)
 |r x k hx=>exact(i7 _ _ _).trans (by rw [hx,Int.mul_comm];rfl)
 |_=>rfl
theorem gW(x:A):dot (ev xs zs) x.int 0=x.I xs zs:=by
 induction x with
 |v i=>exact(sO _ _).trans (OZ i)
 |n k=>exact LU _
 |a x y hx hy=>exact(nJ _ _ _).trans (by rw [hx,hy];rfl)
 |s x y hx hy=>exact(nJ _ _ _).trans (by rw [i7,hx,hy,Int.neg_mul,Int.one_mul];rfl)
 |m k x hx=>exact(i7 _ _ _).trans (by rw [hx];rfl)
 |r x k hx=>exact(i7 _ _ _).trans (by rw [hx,Int.mul_comm];rfl)
 |c x _=>exact gz x
 |_=>rfl
def All(xs:List Nat)(zs:List Int)(ls:List (List Int)):Prop:=∀l,l∈ls->0<=dot (ev xs zs) l 0
theorem All.one{l:List Int}(h:0<=dot (ev xs zs) l 0):All xs zs [l]:=fun k hk=>by rw [List.mem_singleton.mp hk];exact h
theorem All.app{p q:List (List Int)}(h:All xs zs p)(k:All xs zs q):All xs zs (p++q):=fun l hl=>(List.mem_append.mp hl).elim (h l) (k l)
theorem fQ{x y:List Int}{u w:Int}(hx:dot (ev xs zs) x 0=u)(hy:dot (ev xs zs) y 0=w)(h:u<=w):0<=dot (ev xs zs) (mW 0 x y) 0:=by
 rw [Es,hx,hy];show 0<=0*1+(w+ -1*u);omega
theorem fR{x y:List Int}{u w:Int}(hx:dot (ev xs zs) x 0=u)(hy:dot (ev xs zs) y 0=w)(h:u<w):0<=dot (ev xs zs) (mW (-1) x y) 0:=by
 rw [Es,hx,hy];show 0<= -1*1+(w+ -1*u);omega
theorem rq(x:A)(h:¬x.P xs zs):All xs zs x.Q7:=by
 cases x with
 |le x y=>exact .one (fR (gz _) (gz _) (Int.ofNat_lt.mpr (Nat.lt_of_not_le h)))
 |lt x y=>exact .one (fQ (gz _) (gz _) (Int.ofNat_le.mpr (Nat.le_of_not_lt h)))
 |Le x y=>exact .one (fR (gW _) (gW _) (Int.lt_of_not_ge h))
 |Lt x y=>exact .one (fQ (gW _) (gW _) (Int.not_lt.mp h))
 |_=>exact fun ψ h=>nomatch h
theorem I8(x:A):x.P xs zs->All xs zs x.pos:=by
 induction x with
 |le x y=>exact fun h=> .one (fQ (gz _) (gz _) (Int.ofNat_le.mpr h))
 |lt x y=>exact fun h=> .one (fR (gz _) (gz _) (Int.ofNat_lt.mpr h))
 |eq x y=>exact fun h=> .app (.one (fQ (gz _) (gz _) (Int.ofNat_le.mpr (Nat.le_of_eq h)))) (.one (fQ (gz _) (gz _) (Int.ofNat_le.mpr (Nat.le_of_eq h.symm))))
 |Le x y=>exact fun h=> .one (fQ (gW _) (gW _) h)
 |Lt x y=>exact fun h=> .one (fR (gW _) (gW _) h)
 |Eq x y=>exact fun h=> .app (.one (fQ (gW _) (gW _) (Int.le_of_eq h))) (.one (fQ (gW _) (gW _) (Int.le_of_eq h.symm)))
 |no x=>exact fun h=>rq x h
 |d x y hx hy=>exact fun h=> .app (hx h.1) (hy h.2)
 |_=>exact fun h=>h.elim
theorem O0(x:A):¬x.P xs zs->∃q,q∈x.neg/\All xs zs q:=by
 induction x with
 |le x y=>exact fun h=>⟨_,.head _,rq (.le x y) h⟩
 |lt x y=>exact fun h=>⟨_,.head _,rq (.lt x y) h⟩
 |eq x y=>exact fun h=>(Nat.lt_or_gt_of_ne h).elim (fun q=>⟨_,.head _,.one (fR (gz _) (gz _) (Int.ofNat_lt.mpr q))⟩) fun q=>⟨_,.tail _ (.head _),.one (fR (gz _) (gz _) (Int.ofNat_lt.mpr q))⟩
 |Le x y=>exact fun h=>⟨_,.head _,rq (.Le x y) h⟩
 |Lt x y=>exact fun h=>⟨_,.head _,rq (.Lt x y) h⟩
 |Eq x y=>exact fun h=>(Int.lt_or_gt_of_ne h).elim (fun q=>⟨_,.head _,.one (fR (gW _) (gW _) q)⟩) fun q=>⟨_,.tail _ (.head _),.one (fR (gW _) (gW _) q)⟩
 |no x=>exact fun h=>⟨_,.head _,I8 x (Classical.not_not.mp h)⟩
 |d x y hx hy=>exact fun h=>(Classical.em (x.P xs zs)).elim (fun p=>let⟨q,i,j⟩:=hy fun r=>h ⟨p,r⟩;⟨q,List.mem_append_right _ i,j⟩) fun p=>let⟨q,i,j⟩:=hx p;⟨q,List.mem_append_left _ i,j⟩
 |_=>exact fun ψ=>⟨_,.head _,fun ψ h=>nomatch h⟩
theorem Et:∀(ks:List Nat) (ls:List (List Int)),All xs zs ls->0<=dot (ev xs zs) (comb ks ls) 0
 | [],_,_=>Int.le_refl 0
 |_::_, [],_=>Int.le_refl 0
 |k::ks,l::ls,h=>by
  show 0<=dot (ev xs zs) (add (scale k l) (comb ks ls)) 0;rw [nJ,i7];exact Int.add_nonneg (Int.mul_nonneg (Int.natCast_nonneg k) (h l (.head _))) (Et ks ls fun l hl=>h l (.tail _ hl))
theorem Eu{e:Nat->Int}:∀ {l:List Int} {i:Nat},zero l=true->dot e l i=0
 | [],_,_=>rfl
 |w::l,i,h=>by
  have h:(w==0&&zero l)=true:=h;rw [Bool.and_eq_true,beq_iff_eq] at h;show w*e i+dot e l (i+1)=0;rw [h.1,Eu h.2,Int.zero_mul];rfl
theorem O6:∀ {l:List Int},bad l=true->¬0<=dot (ev xs zs) l 0
 | [],h,_=>nomatch h
 |w::l,h,k=>by
  have h:(decide (w<0)&&zero l)=true:=h;rw [Bool.and_eq_true,decide_eq_true_eq] at h;have k:0<=w*1+dot (ev xs zs) l 1:=k;rw [Eu h.2,Int.mul_one,Int.add_zero] at k;exact Int.not_lt.mpr k h.1
theorem BD{fs:List (List Int)}(hf:All xs zs fs):∀ {qs:List (List (List Int))} {ks:List (List Nat)},Cr fs qs ks=true->∀q,q∈qs->¬All xs zs q
 | [],_,_,_,hq=>nomatch hq
 |_::_, [],h,_,_=>nomatch h
 |q::qs,k::ks,h,x,hx=>by
  have h:(bad (comb k (q++fs))&&Cr fs qs ks)=true:=h;rw [Bool.and_eq_true] at h;exact(List.mem_cons.mp hx).elim (fun e p=>O6 (xs:=xs) (zs:=zs) h.1 (Et k _ (.app (e▸p) hf))) fun hx=>BD hf h.2 x hx
theorem BE(g:A):∀ {hs:List A},(All xs zs (facts hs)->g.P xs zs)->imp xs zs g hs
 | [],k=>k fun l hl=>by
  have u:∀i,0<=dot (ev xs zs) (unit (2*i+1)) 0:=fun i=>by rw [sO,I7];exact Int.natCast_nonneg _
  have key:∀i,All xs zs [unit (2*i+1)]:=fun i=> .one (u i);exact((key 0).app ((key 1).app ((key 2).app ((key 3).app ((key 4).app ((key 5).app ((key 6).app ((key 7).app ((key 8).app ((key 9).app ((key 10).app ((key 11).app ((key 12).app ((key 13).app ((key 14).app (key 15)))))))))))))))) l hl
 |h::hs,k=>fun q=>BE g fun r=>k ((I8 h q).app r)
end
end
end A
theorem ah(g:A)(hs:List A)(ct:List (List Nat))(h:A.Cr (A.facts hs) g.neg ct=true)(xs:List Nat)(zs:List Int):A.imp xs zs g hs:=
 A.BE g fun k=>Classical.byContradiction fun q=>let⟨_,a,b⟩:=A.O0 g q;A.BD k h _ a b
theorem spS(x y:Nat):x-y+y=x\/(x<y/\x-y=0):=(Nat.lt_or_ge x y).elim (fun h=> .inr ⟨h,Nat.sub_eq_zero_of_le (Nat.le_of_lt h)⟩) fun h=> .inl (Nat.sub_add_cancel h)
theorem spT(x:Int):((x.toNat:Nat):Int)=x\/(x<0/\x.toNat=0):=(Int.lt_or_le x 0).elim (fun h=> .inr ⟨h,Int.toNat_of_nonpos (Int.le_of_lt h)⟩) fun h=> .inl (Int.toNat_of_nonneg h)
theorem i8(x y:Nat):(x<=y/\min x y=x)\/(y<x/\min x y=y):=(Nat.lt_or_ge y x).elim (fun h=> .inr ⟨h,Nat.min_eq_right (Nat.le_of_lt h)⟩) fun h=> .inl ⟨h,Nat.min_eq_left h⟩
theorem G_{x y:Nat}(h:x≠y):x<y\/y<x:=Nat.lt_or_gt_of_ne h
theorem spZ{x y:Int}(h:x≠y):x<y\/y<x:=Int.lt_or_gt_of_ne h
end
section
open A
namespace A
noncomputable abbrev B:A:= .v 0
noncomputable abbrev C:A:= .v 1
noncomputable abbrev D:A:= .v 2
noncomputable abbrev E:A:= .v 3
noncomputable abbrev F:A:= .v 4
noncomputable abbrev G:A:= .v 5
noncomputable abbrev H:A:= .v 6
noncomputable abbrev J:A:= .v 7
noncomputable abbrev K:A:= .v 8
noncomputable abbrev L:A:= .v 9
noncomputable abbrev v10:A:= .v 10
noncomputable abbrev v11:A:= .v 11
noncomputable abbrev O_:A:= .v 12
end A
noncomputable abbrev n0:A:= .n 0
noncomputable abbrev n1:A:= .n 1
noncomputable abbrev n2:A:= .n 2
noncomputable abbrev n3:A:= .n 3
noncomputable abbrev n4:A:= .n 4
noncomputable abbrev n5:A:= .n 5
noncomputable abbrev n7:A:= .n 7
noncomputable abbrev n8:A:= .n 8
noncomputable abbrev dY:A:= .n 10
noncomputable abbrev fN:A:= .n 12
noncomputable abbrev mr:A:= .n 16
noncomputable abbrev rh:A:= .n 24
noncomputable abbrev eB:A:= .n 100
noncomputable abbrev fV:A:= .n 148
noncomputable abbrev cM:A:= .n 160
noncomputable abbrev Ew:A:= .n 255
noncomputable abbrev iB:A:= .n 256
noncomputable abbrev gd:A:= .n 384
noncomputable abbrev gJ:A:= .n 1000
noncomputable abbrev aJ:A:= .n 100000
noncomputable abbrev eg:A:= .n 16777216
noncomputable abbrev c6:A:= .n 4294967296
noncomputable abbrev bU:A:= .n 1152921504606846976
noncomputable abbrev aZ:A:= .n 4611686018427387904
noncomputable abbrev bw:A:= .n 9223372036854775808
section
variable {a b c d e i j k l m n o p r s t:Nat}{u v w x y z u1 C:Int}
theorem O1:a<b->a≠b+1:=ah (.no (.eq B (.a C n1))) [(.lt B C)] [[0,1,1]] rfl [a,b] []
theorem lk{a b c:Nat}(h:a<=b)(e:Nat.ble b c=true:=by rfl):a<=c:=Nat.le_trans h (Nat.le_of_ble_eq_true e)
theorem O2:0<=(a:Int):=ah (.Le n0 (.c B)) [] [[1,1]] rfl [a] []
theorem O3:a+1<b->a<b:=ah (.lt B C) [(.lt (.a B n1) C)] [[1,1]] rfl [a,b] []
theorem O4:4<=8:=ah (.le n4 n8) [] [[1]] rfl [] []
theorem O5:0<=u/\u<5->Int.toNat (1+u)<=5:=fun h0=>(spT ((1:Int)+u)).elim (fun q0=>ah (.le B n5) [(.Eq (.c B) (.a n1 B)),(.d (.Le n0 B) (.Lt B n5))] [[1,1,0,0,1]] rfl [(Int.toNat ((1:Int)+u))] [u] q0 h0) (fun q0=>ah (.le B n5) [(.d (.Lt (.a n1 B) n0) (.eq B n0)),(.d (.Le n0 B) (.Lt B n5))] [[1,0,1]] rfl [(Int.toNat ((1:Int)+u))] [u] q0 h0)
theorem O7:b=a+1->a<b:=ah (.lt B C) [(.eq C (.a B n1))] [[1,0,1]] rfl [a,b] []
theorem O8:a≠a+1:=ah (.no (.eq B (.a B n1))) [] [[0,1]] rfl [a] []
theorem Cu:a<3->0<=(a:Int)/\(a:Int)<2 ^ 62:=ah (.d (.Le n0 (.c B)) (.Lt (.c B) aZ)) [(.lt B n3)] [[1,0,1],[1,1]] rfl [a] []
theorem Wf:a<=100->a<=100000:=ah (.le B aJ) [(.le B eB)] [[1,1]] rfl [a] []
theorem Cv:a<a+1:=ah (.lt B (.a B n1)) [] [[1]] rfl [a] []
theorem Ex:b<=10->a=b->a<=100000:=ah (.le B aJ) [(.le C dY),(.eq B C)] [[1,1,1]] rfl [a,b] []
theorem Ey:b=a+2->a<b:=ah (.lt B C) [(.eq C (.a B n2))] [[1,0,1]] rfl [a,b] []
theorem Ez:a+2≠a+1:=ah (.no (.eq (.a B n2) (.a B n1))) [] [[1]] rfl [a] []
theorem EA:a<=a+2:=ah (.le B (.a B n2)) [] [[1]] rfl [a] []
theorem EB:a=160->a<=100000:=ah (.le B aJ) [(.eq B cM)] [[1,1]] rfl [a] []
theorem Ha:a<=100000->a<=16777216:=ah (.le B eg) [(.le B aJ)] [[1,1]] rfl [a] []
theorem Hb:a<=10->a<=100:=ah (.le B eB) [(.le B dY)] [[1,1]] rfl [a] []
theorem Hc:a<=900->4+a<=100000:=ah (.le (.a n4 B) aJ) [(.le B (.n 900))] [[1,1]] rfl [a] []
theorem Hd:¬(b<=a)->a<=b:=ah (.le B C) [(.no (.le C B))] [[1,1]] rfl [a,b] []
theorem He:a<c->c<=b->a<b:=ah (.lt B C) [(.lt B D),(.le D C)] [[1,1,1]] rfl [a,b,c] []
theorem Pb:1<=1:=ah (.le n1 n1) [] [[1]] rfl [] []
theorem J7:b<=100->a=b->a<=100000:=ah (.le B aJ) [(.le C eB),(.eq B C)] [[1,1,1]] rfl [a,b] []
theorem J8:a<b->a<b+1:=ah (.lt B (.a C n1)) [(.lt B C)] [[1,1]] rfl [a,b] []
theorem J9:0<=u/\u<5->1<=Int.toNat (1+u):=fun h0=>(spT ((1:Int)+u)).elim (fun q0=>ah (.le n1 B) [(.Eq (.c B) (.a n1 B)),(.d (.Le n0 B) (.Lt B n5))] [[1,0,1,1]] rfl [(Int.toNat ((1:Int)+u))] [u] q0 h0) (fun q0=>ah (.le n1 B) [(.d (.Lt (.a n1 B) n0) (.eq B n0)),(.d (.Le n0 B) (.Lt B n5))] [[0,1,0,0,1]] rfl [(Int.toNat ((1:Int)+u))] [u] q0 h0)
theorem J_:a+1<b/\a+2<b/\c<b->a<b:=ah (.lt B C) [(.d (.lt (.a B n1) C) (.d (.lt (.a B n2) C) (.lt D C)))] [[1,1]] rfl [a,b,c] []
theorem Wg:b<a->a-b=c+1->a-(b+1)=c:=fun h0 h1=>(spS a b).elim (fun q0=>(spS a (b+1)).elim (fun q1=>ah (.eq F D) [(.eq (.a F (.a C n1)) B),(.eq (.a E C) B),(.lt C B),(.eq E (.a D n1))] [[1,0,1,1,0,0,0,1],[1,1,0,0,1,0,1]] rfl [a,b,c,(a-b),(a-(b+1))] [] q1 q0 h0 h1) (fun q1=>ah (.eq F D) [(.d (.lt B (.a C n1)) (.eq F n0)),(.eq (.a E C) B),(.lt C B),(.eq E (.a D n1))] [[0,1,0,0,0,0,1],[1,0,1,0,0,0,0,0,0,0,0,1]] rfl [a,b,c,(a-b),(a-(b+1))] [] q1 q0 h0 h1)) (fun q0=>ah (.eq F D) [(.d (.lt B C) (.eq E n0)),(.lt C B),(.eq E (.a D n1))] [[0,1,0,0,1],[0,1,0,0,1]] rfl [a,b,c,(a-b),(a-(b+1))] [] q0 h0 h1)
theorem Pc:a<=10->a<=100000:=ah (.le B aJ) [(.le B dY)] [[1,1]] rfl [a] []
theorem Ka:a<=a:=ah (.le B B) [] [[1]] rfl [a] []
theorem O34:a<=1000->a<=100000:=ah (.le B aJ) [(.le B gJ)] [[1,1]] rfl [a] []
theorem Kb:b<c->c<=a->a≠b:=ah (.no (.eq B C)) [(.lt C D),(.le D B)] [[1,0,1,1]] rfl [a,b,c] []
theorem LV:a<=6->a<=100000:=ah (.le B aJ) [(.le B (.n 6))] [[1,1]] rfl [a] []
theorem Pd:a+1<=b->a<=b:=ah (.le B C) [(.le (.a B n1) C)] [[1,1]] rfl [a,b] []
theorem LW:0<=u/\u<4294967296->u<256 ^ 4:=ah (.Lt B c6) [(.d (.Le n0 B) (.Lt B c6))] [[1,0,1]] rfl [] [u]
theorem O39:a<=8->a<=100000:=ah (.le B aJ) [(.le B n8)] [[1,1]] rfl [a] []
theorem Pe:a+1<b/\c<b/\d<b->a<b:=ah (.lt B C) [(.d (.lt (.a B n1) C) (.d (.lt D C) (.lt E C)))] [[1,1]] rfl [a,b,c,d] []
theorem Pf:b=a+2->a+1<b:=ah (.lt (.a B n1) C) [(.eq C (.a B n2))] [[1,0,1]] rfl [a,b] []
theorem Pg:a+3≠a+1:=ah (.no (.eq (.a B n3) (.a B n1))) [] [[1]] rfl [a] []
theorem Ph:a=384->a<=100000:=ah (.le B aJ) [(.eq B gd)] [[1,1]] rfl [a] []
theorem Pj:0<=u->u=((Int.toNat u:Nat):Int):=fun h0=>(spT u).elim (fun q0=>ah (.Eq B (.c B)) [(.Eq (.c B) B),(.Le n0 B)] [[1,1],[1,0,1]] rfl [(Int.toNat u)] [u] q0 h0) (fun q0=>ah (.Eq B (.c B)) [(.d (.Lt B n0) (.eq B n0)),(.Le n0 B)] [[0,1,0,0,1],[0,1,0,0,1]] rfl [(Int.toNat u)] [u] q0 h0)
theorem Pk:0<=u/\u<2 ^ 32->0<=u:=ah (.Le n0 B) [(.d (.Le n0 B) (.Lt B c6))] [[1,1]] rfl [] [u]
theorem Pl:0<=u/\u<2 ^ 32->u<256 ^ 4:=ah (.Lt B c6) [(.d (.Le n0 B) (.Lt B c6))] [[1,0,1]] rfl [] [u]
theorem Pm:a<=100000->(a:Int)<2 ^ 63:=ah (.Lt (.c B) bw) [(.le B aJ)] [[1,1]] rfl [a] []
theorem Pn:a<=148->4+a<=1000:=ah (.le (.a n4 B) gJ) [(.le B fV)] [[1,1]] rfl [a] []
theorem Wh:0<=8*(a:Int):=ah (.Le n0 (.m 8 (.c B))) [] [[1,8]] rfl [a] []
theorem Tn:a+1=b+1->a=b:=ah (.eq B C) [(.eq (.a B n1) (.a C n1))] [[1,0,1],[1,1]] rfl [a,b] []
theorem To:10<=u/\u<=15->0<=u:=ah (.Le n0 B) [(.d (.Le dY B) (.Le B (.n 15)))] [[1,1]] rfl [] [u]
theorem Tp:10<=u/\u<=15->u<256 ^ 4:=ah (.Lt B c6) [(.d (.Le dY B) (.Le B (.n 15)))] [[1,0,1]] rfl [] [u]
theorem Tq:10<=u/\u<=15->u<2 ^ 62:=ah (.Lt B aZ) [(.d (.Le dY B) (.Le B (.n 15)))] [[1,0,1]] rfl [] [u]
theorem Tr:a+1<b/\c<b->a<b:=ah (.lt B C) [(.d (.lt (.a B n1) C) (.lt D C))] [[1,1]] rfl [a,b,c] []
theorem Ts:b<=10->min a b<=10:=fun h0=>(i8 a b).elim (fun q0=>ah (.le D dY) [(.d (.le B C) (.eq D B)),(.le C dY)] [[1,1,1,0,1]] rfl [a,b,(min a b)] [] q0 h0) (fun q0=>ah (.le D dY) [(.d (.lt C B) (.eq D C)),(.le C dY)] [[1,0,1,0,1]] rfl [a,b,(min a b)] [] q0 h0)
theorem Tt:0<=u/\u<5->0<=1+u:=ah (.Le n0 (.a n1 B)) [(.d (.Le n0 B) (.Lt B n5))] [[1,1]] rfl [] [u]
theorem Wi:a<=63->a<=100000:=ah (.le B aJ) [(.le B (.n 63))] [[1,1]] rfl [a] []
theorem Tu:a-b<=a-b:=ah (.le D D) [] [[1]] rfl [a,b,(a-b)] []
theorem O65:a<=b->a+1<=b+1:=ah (.le (.a B n1) (.a C n1)) [(.le B C)] [[1,1]] rfl [a,b] []
theorem Tv:c=a+2->b=c->a<b:=ah (.lt B C) [(.eq D (.a B n2)),(.eq C D)] [[1,0,1,0,1]] rfl [a,b,c] []
theorem Tw:b+1<=a->a-(b+1)<a:=fun h0=>(spS a (b+1)).elim (fun q0=>ah (.lt D B) [(.eq (.a D (.a C n1)) B),(.le (.a C n1) B)] [[1,1,0,0,0,1]] rfl [a,b,(a-(b+1))] [] q0 h0) (fun q0=>ah (.lt D B) [(.d (.lt B (.a C n1)) (.eq D n0)),(.le (.a C n1) B)] [[0,1,0,0,1]] rfl [a,b,(a-(b+1))] [] q0 h0)
theorem Wj:b<a->a-b=a-b-1+1:=fun h0=>(spS a b).elim (fun q0=>(spS (a-b) 1).elim (fun q1=>ah (.eq D (.a E n1)) [(.eq (.a E n1) D),(.eq (.a D C) B),(.lt C B)] [[1,1],[1,0,1]] rfl [a,b,(a-b),((a-b)-1)] [] q1 q0 h0) (fun q1=>ah (.eq D (.a E n1)) [(.d (.lt D n1) (.eq E n0)),(.eq (.a D C) B),(.lt C B)] [[0,1,0,0,0,1,1],[0,1,0,0,0,1,1]] rfl [a,b,(a-b),((a-b)-1)] [] q1 q0 h0)) (fun q0=>ah (.eq D (.a E n1)) [(.d (.lt B C) (.eq D n0)),(.lt C B)] [[0,1,0,0,1],[0,1,0,0,1]] rfl [a,b,(a-b),((a-b)-1)] [] q0 h0)
theorem Wk:c<a->a-c=b+1->a-(b+1)=c:=fun h0 h1=>(spS a c).elim (fun q0=>(spS a (b+1)).elim (fun q1=>ah (.eq F D) [(.eq (.a F (.a C n1)) B),(.eq (.a E D) B),(.lt D B),(.eq E (.a C n1))] [[1,0,1,1,0,0,0,1],[1,1,0,0,1,0,1]] rfl [a,b,c,(a-c),(a-(b+1))] [] q1 q0 h0 h1) (fun q1=>ah (.eq F D) [(.d (.lt B (.a C n1)) (.eq F n0)),(.eq (.a E D) B),(.lt D B),(.eq E (.a C n1))] [[0,1,0,0,1,0,0,0,1,0,0,1],[0,1,0,0,1,0,0,0,1,0,0,1]] rfl [a,b,c,(a-c),(a-(b+1))] [] q1 q0 h0 h1)) (fun q0=>ah (.eq F D) [(.d (.lt B D) (.eq E n0)),(.lt D B),(.eq E (.a C n1))] [[0,1,0,0,1],[0,1,0,0,1]] rfl [a,b,c,(a-c),(a-(b+1))] [] q0 h0 h1)
theorem O72:a<=b->a<=b+1:=ah (.le B (.a C n1)) [(.le B C)] [[1,1]] rfl [a,b] []
theorem Tx:¬((a:Int)<0):=ah (.no (.Lt (.c B) n0)) [] [[1,1]] rfl [a] []
theorem Tz:0<=u/\u<2 ^ 32->u<2 ^ 60:=ah (.Lt B bU) [(.d (.Le n0 B) (.Lt B c6))] [[1,0,1]] rfl [] [u]
theorem TA:b=c+2->a<c->a<b:=ah (.lt B C) [(.eq C (.a D n2)),(.lt B D)] [[1,0,1,1]] rfl [a,b,c] []
theorem TB:u<2 ^ 32->u<256 ^ 4:=ah (.Lt B c6) [(.Lt B c6)] [[1,1]] rfl [] [u]
theorem TC:a<=148->(a:Int)<256 ^ 4:=ah (.Lt (.c B) c6) [(.le B fV)] [[1,1]] rfl [a] []
theorem TF:a<b->a<=b:=ah (.le B C) [(.lt B C)] [[1,1]] rfl [a,b] []
theorem TG:0<=u/\u<5->0<=1+u/\1+u<=100:=ah (.d (.Le n0 (.a n1 B)) (.Le (.a n1 B) eB)) [(.d (.Le n0 B) (.Lt B n5))] [[1,1],[1,0,1]] rfl [] [u]
theorem TH:b+1<c/\d<c/\e<c->c<=a->a≠b+1:=ah (.no (.eq B (.a C n1))) [(.d (.lt (.a C n1) D) (.d (.lt E D) (.lt F D))),(.le D B)] [[1,0,1,0,0,1]] rfl [a,b,c,d,e] []
theorem TJ:c+1<d/\b<d/\e<d->d<=a->a≠b:=ah (.no (.eq B C)) [(.d (.lt (.a D n1) E) (.d (.lt C E) (.lt F E))),(.le E B)] [[1,0,0,1,0,1]] rfl [a,b,c,d,e] []
theorem TK:c+1<d/\e<d/\b<d->d<=a->a≠b:=ah (.no (.eq B C)) [(.d (.lt (.a D n1) E) (.d (.lt F E) (.lt C E))),(.le E B)] [[1,0,0,0,1,1]] rfl [a,b,c,d,e] []
theorem TL:a+b<=100000->a+b<=16777216:=ah (.le (.a B C) eg) [(.le (.a B C) aJ)] [[1,1]] rfl [a,b] []
theorem TM:a<=148->12+a<=160:=ah (.le (.a fN B) cM) [(.le B fV)] [[1,1]] rfl [a] []
theorem TN:b=8->a<8->a<b:=ah (.lt B C) [(.eq C n8),(.lt B n8)] [[1,0,1,1]] rfl [a,b] []
theorem TO:¬(b<a)->a<=b:=ah (.le B C) [(.no (.lt C B))] [[1,1]] rfl [a,b] []
theorem TP:¬(a<8)->¬(a<12)->a<12+b->a-8-4<b:=fun h0 h1 h2=>(spS a 8).elim (fun q0=>(spS (a-8) 4).elim (fun q1=>ah (.lt D C) [(.eq (.a D n4) E),(.eq (.a E n8) B),(.no (.lt B n8)),(.no (.lt B fN)),(.lt B (.a fN C))] [[1,1,0,1,0,0,0,1]] rfl [a,b,((a-8)-4),(a-8)] [] q1 q0 h0 h1 h2) (fun q1=>ah (.lt D C) [(.d (.lt E n4) (.eq D n0)),(.eq (.a E n8) B),(.no (.lt B n8)),(.no (.lt B fN)),(.lt B (.a fN C))] [[1,0,1,0,0,0,0,1,1]] rfl [a,b,((a-8)-4),(a-8)] [] q1 q0 h0 h1 h2)) (fun q0=>ah (.lt D C) [(.d (.lt B n8) (.eq E n0)),(.no (.lt B n8)),(.no (.lt B fN)),(.lt B (.a fN C))] [[0,1,0,0,1]] rfl [a,b,((a-8)-4),(a-8)] [] q0 h0 h1 h2)
theorem TQ:b<c->c<=a->a+1≠b:=ah (.no (.eq (.a B n1) C)) [(.lt C D),(.le D B)] [[1,0,1,1]] rfl [a,b,c] []
theorem Wl:b<=100000->a<=b->a<=16777216:=ah (.le B eg) [(.le C aJ),(.le B C)] [[1,1,1]] rfl [a,b] []
theorem Wm:a<=100000/\b<c->a<=16777216:=ah (.le B eg) [(.d (.le B aJ) (.lt C D))] [[1,1]] rfl [a,b,c] []
theorem Wn:c<=b->a<c->a≠b:=ah (.no (.eq B C)) [(.le D C),(.lt B D)] [[0,1,1,1]] rfl [a,b,c] []
theorem Wo:a<3->a=0\/a=1\/a=2:=by lia
theorem Wq:a<64->a<=16777216:=ah (.le B eg) [(.lt B (.n 64))] [[1,1]] rfl [a] []
theorem Wr:a+3*(c+1)<b->a<b:=ah (.lt B C) [(.lt (.a B (.m 3 (.a D n1))) C)] [[1,1,0,0,3]] rfl [a,b,c] []
theorem Ws:c=d->b=d->a<c->a<b:=ah (.lt B C) [(.eq D E),(.eq C E),(.lt B D)] [[1,1,0,0,1,1]] rfl [a,b,c,d] []
theorem Wt:c=d->a=d->¬(b<c)->a<=b:=ah (.le B C) [(.eq D E),(.eq B E),(.no (.lt C D))] [[1,0,1,1,0,1]] rfl [a,b,c,d] []
theorem Wu:b<=10->a<=100*b->a<=100000:=ah (.le B aJ) [(.le C dY),(.le B (.m 100 C))] [[1,100,1]] rfl [a,b] []
theorem Q8:c=a+1->d=c+1->b=d+1->a<b+1:=ah (.lt B (.a C n1)) [(.eq D (.a B n1)),(.eq E (.a D n1)),(.eq C (.a E n1))] [[1,0,1,0,1,0,1]] rfl [a,b,c,d] []
theorem Q9:a<=6->a<=100:=ah (.le B eB) [(.le B (.n 6))] [[1,1]] rfl [a] []
theorem Q_:0<=u/\u<=100000->u=((Int.toNat u:Nat):Int):=fun h0=>(spT u).elim (fun q0=>ah (.Eq B (.c B)) [(.Eq (.c B) B),(.d (.Le n0 B) (.Le B aJ))] [[1,1],[1,0,1]] rfl [(Int.toNat u)] [u] q0 h0) (fun q0=>ah (.Eq B (.c B)) [(.d (.Lt B n0) (.eq B n0)),(.d (.Le n0 B) (.Le B aJ))] [[0,1,0,0,1],[0,1,0,0,1]] rfl [(Int.toNat u)] [u] q0 h0)
theorem Ra:0<=(a:Int)/\(a:Int)<=100000->a<=100000:=ah (.le B aJ) [(.d (.Le n0 (.c B)) (.Le (.c B) aJ))] [[1,0,1]] rfl [a] []
theorem Rb:a+3*(b+1)<c->a+1+3*b<c:=ah (.lt (.a (.a B n1) (.m 3 C)) D) [(.lt (.a B (.m 3 (.a C n1))) D)] [[1,1]] rfl [a,b,c] []
theorem Rc:a<a+1+1:=ah (.lt B (.a (.a B n1) n1)) [] [[1]] rfl [a] []
theorem Rf:0<=u->¬(u<0):=ah (.no (.Lt B n0)) [(.Le n0 B)] [[1,1]] rfl [] [u]
theorem Rg:u<(a:Int)->a<=100000->u<2 ^ 62:=ah (.Lt B aZ) [(.Lt B (.c B)),(.le B aJ)] [[1,1,1]] rfl [a] [u]
theorem Rh:0<=u/\u<3->u=0\/u=1\/u=2:=by lia
theorem Ri:0<=u/\u<5->0<=70+u/\70+u<2 ^ 60:=ah (.d (.Le n0 (.a (.n 70) B)) (.Lt (.a (.n 70) B) bU)) [(.d (.Le n0 B) (.Lt B n5))] [[1,1],[1,0,1]] rfl [] [u]
theorem Rj:0<=u/\u<4->0<=1+u/\1+u<2 ^ 32:=ah (.d (.Le n0 (.a n1 B)) (.Lt (.a n1 B) c6)) [(.d (.Le n0 B) (.Lt B n4))] [[1,1],[1,0,1]] rfl [] [u]
theorem Rk:c=a+2->d=c->b=d->a<b:=ah (.lt B C) [(.eq D (.a B n2)),(.eq E D),(.eq C E)] [[1,0,1,0,1,0,1]] rfl [a,b,c,d] []
theorem Wv:a<=8->(a:Int)<=1000000:=ah (.Le (.c B) (.n 1000000)) [(.le B n8)] [[1,1]] rfl [a] []
theorem Ww:a<=8->(a:Int)<2 ^ 60:=ah (.Lt (.c B) bU) [(.le B n8)] [[1,1]] rfl [a] []
theorem Rl:Int.toNat ((a:Int)*16+(b:Int))=a*16+b:=(spT ((((a:Nat):Int)*(16:Int))+((b:Nat):Int))).elim (fun q0=>ah (.eq D (.a (.r B 16) C)) [(.Eq (.c D) (.a (.r (.c B) 16) (.c C)))] [[1,0,1],[1,1]] rfl [a,b,(Int.toNat ((((a:Nat):Int)*(16:Int))+((b:Nat):Int)))] [] q0) (fun q0=>ah (.eq D (.a (.r B 16) C)) [(.d (.Lt (.a (.r (.c B) 16) (.c C)) n0) (.eq D n0))] [[0,1,0,0,16,1],[0,1,0,0,16,1]] rfl [a,b,(Int.toNat ((((a:Nat):Int)*(16:Int))+((b:Nat):Int)))] [] q0)
theorem Rm:0<=u/\u<160->u=(a:Int)->0*16+a<384:=ah (.lt (.a (.m 0 mr) B) gd) [(.d (.Le n0 B) (.Lt B cM)),(.Eq B (.c B))] [[1,0,1,0,1]] rfl [a] [u]
theorem Rn:0*16+a=a:=ah (.eq (.a (.m 0 mr) B) B) [] [[1],[1]] rfl [a] []
theorem Ro:0<=u/\u<160->u=(a:Int)->13*16+a<384:=ah (.lt (.a (.m 13 mr) B) gd) [(.d (.Le n0 B) (.Lt B cM)),(.Eq B (.c B))] [[1,0,1,0,1]] rfl [a] [u]
theorem Rp:13*16+a=208+a:=ah (.eq (.a (.m 13 mr) B) (.a (.n 208) B)) [] [[1],[1]] rfl [a] []
theorem Wx:b<=100000->a<=c->c<b->a<=16777216:=ah (.le B eg) [(.le C aJ),(.le B D),(.lt D C)] [[1,1,1,1]] rfl [a,b,c] []
theorem Rq:a<=1000->a<=16777216:=ah (.le B eg) [(.le B gJ)] [[1,1]] rfl [a] []
theorem Rr: -(2 ^ 63)<=(a:Int):=ah (.Le (.s n0 bw) (.c B)) [] [[1,1]] rfl [a] []
theorem Rt:a<=100000->¬(Int.toNat (a:Int)>16777216):=fun h0=>(spT ((a:Nat):Int)).elim (fun q0=>ah (.no (.lt eg C)) [(.Eq (.c C) (.c B)),(.le B aJ)] [[1,1,0,1]] rfl [a,(Int.toNat ((a:Nat):Int))] [] q0 h0) (fun q0=>ah (.no (.lt eg C)) [(.d (.Lt (.c B) n0) (.eq C n0)),(.le B aJ)] [[0,1,0,0,0,1]] rfl [a,(Int.toNat ((a:Nat):Int))] [] q0 h0)
theorem Ru:a<=10->(a:Int)<256 ^ 1:=ah (.Lt (.c B) iB) [(.le B dY)] [[1,1]] rfl [a] []
theorem Rv:a<=10->(a:Int)<2 ^ 60:=ah (.Lt (.c B) bU) [(.le B dY)] [[1,1]] rfl [a] []
theorem Rw:c=a+2->b=c+1->a<=b:=ah (.le B C) [(.eq D (.a B n2)),(.eq C (.a D n1))] [[1,0,1,0,1]] rfl [a,b,c] []
theorem Rx:a<3->b=3->a<b:=ah (.lt B C) [(.lt B n3),(.eq C n3)] [[1,1,0,1]] rfl [a,b] []
theorem Ry:8+4+(a:Int)=12+(a:Int):=ah (.Eq (.a (.a n8 n4) (.c B)) (.a fN (.c B))) [] [[1],[1]] rfl [a] []
theorem Rz:a+10<=24->0<=(a:Int)/\(0:Int)<=10/\(a:Int)+10<=24:=ah (.d (.Le n0 (.c B)) (.d (.Le n0 dY) (.Le (.a (.c B) dY) rh))) [(.le (.a B dY) rh)] [[1,0,1],[1],[1,1]] rfl [a] []
theorem RA:a<=13->a+10<=24:=ah (.le (.a B dY) rh) [(.le B (.n 13))] [[1,1]] rfl [a] []
theorem RC:a<c->c<=d->d<=b->a<b:=ah (.lt B C) [(.lt B D),(.le D E),(.le E C)] [[1,1,1,1]] rfl [a,b,c,d] []
theorem RD:a<3->(a:Int)<256 ^ 1:=ah (.Lt (.c B) iB) [(.lt B n3)] [[1,1]] rfl [a] []
theorem RE:a<256->(a:Int)<256 ^ 1:=ah (.Lt (.c B) iB) [(.lt B iB)] [[1,1]] rfl [a] []
theorem RG:a+16*0+12<d->min b c<=10->a+min b c<d:=fun h0 h1=>ah (.lt (.a B F) E) [(.lt (.a (.a B (.m 16 n0)) fN) E),(.le F dY)] [[1,1,1]] rfl [a,b,c,d,(min b c)] [] h0 h1
theorem RH:a+16*0+12<b->a<b:=ah (.lt B C) [(.lt (.a (.a B (.m 16 n0)) fN) C)] [[1,1]] rfl [a,b] []
theorem RI:b+1<=a->a-(b+1)+1=a-b:=fun h0=>(spS a b).elim (fun q0=>(spS a (b+1)).elim (fun q1=>ah (.eq (.a D n1) E) [(.eq (.a D (.a C n1)) B),(.eq (.a E C) B),(.le (.a C n1) B)] [[1,0,1,1],[1,1,0,0,1]] rfl [a,b,(a-(b+1)),(a-b)] [] q1 q0 h0) (fun q1=>ah (.eq (.a D n1) E) [(.d (.lt B (.a C n1)) (.eq D n0)),(.eq (.a E C) B),(.le (.a C n1) B)] [[0,1,0,0,0,0,1],[0,1,0,0,0,0,1]] rfl [a,b,(a-(b+1)),(a-b)] [] q1 q0 h0)) (fun q0=>ah (.eq (.a D n1) E) [(.d (.lt B C) (.eq E n0)),(.le (.a C n1) B)] [[0,1,0,0,1],[0,1,0,0,1]] rfl [a,b,(a-(b+1)),(a-b)] [] q0 h0)
theorem RJ:b<=100->c<b->a<=min c b->a<=100:=fun h0 h1 h2=>(i8 c b).elim (fun q0=>ah (.le B eB) [(.d (.le D C) (.eq E D)),(.le C eB),(.lt D C),(.le B E)] [[1,1,1,0,1,0,1]] rfl [a,b,c,(min c b)] [] q0 h0 h1 h2) (fun q0=>ah (.le B eB) [(.d (.lt C D) (.eq E C)),(.le C eB),(.lt D C),(.le B E)] [[0,1,0,0,0,1]] rfl [a,b,c,(min c b)] [] q0 h0 h1 h2)
theorem RK:a<c->c<=b->a+1<=b:=ah (.le (.a B n1) C) [(.lt B D),(.le D C)] [[1,1,1]] rfl [a,b,c] []
theorem RL:a<=100->(a:Int)<256 ^ 1:=ah (.Lt (.c B) iB) [(.le B eB)] [[1,1]] rfl [a] []
theorem RM:a=b->b<=10->a<=100000:=ah (.le B aJ) [(.eq B C),(.le C dY)] [[1,1,0,1]] rfl [a,b] []
theorem RN:a=b->b<=10->(a:Int)<256 ^ 1:=ah (.Lt (.c B) iB) [(.eq B C),(.le C dY)] [[1,1,0,1]] rfl [a,b] []
theorem RO:a<b->a≠b+2:=ah (.no (.eq B (.a C n2))) [(.lt B C)] [[0,1,1]] rfl [a,b] []
theorem RP:a<=b->b<=1000->a<=100000:=ah (.le B aJ) [(.le B C),(.le C gJ)] [[1,1,1]] rfl [a,b] []
theorem RQ:b=c->a<c->a<b:=ah (.lt B C) [(.eq C D),(.lt B D)] [[1,0,1,1]] rfl [a,b,c] []
theorem RR:a<256->(a:Int)<256:=ah (.Lt (.c B) iB) [(.lt B iB)] [[1,1]] rfl [a] []
theorem RS:a<=100000->¬((a:Int)>=2 ^ 63):=ah (.no (.Le bw (.c B))) [(.le B aJ)] [[1,1]] rfl [a] []
theorem RT:a+1<c->b=c+1->a<b:=ah (.lt B C) [(.lt (.a B n1) D),(.eq C (.a D n1))] [[1,1,0,1]] rfl [a,b,c] []
theorem RU:b+1<a->a≠b+1:=ah (.no (.eq B (.a C n1))) [(.lt (.a C n1) B)] [[1,0,1]] rfl [a,b] []
theorem RV:a=160->a<=10*16:=ah (.le B (.m 10 mr)) [(.eq B cM)] [[1,1]] rfl [a] []
theorem RW:a=8->¬(b<8)->a<=b:=ah (.le B C) [(.eq B n8),(.no (.lt C n8))] [[1,1,0,1]] rfl [a,b] []
theorem RX:b=4->a<12->a-8<b:=fun h0 h1=>(spS a 8).elim (fun q0=>ah (.lt D C) [(.eq (.a D n8) B),(.eq C n4),(.lt B fN)] [[1,1,0,0,1,1]] rfl [a,b,(a-8)] [] q0 h0 h1) (fun q0=>ah (.lt D C) [(.d (.lt B n8) (.eq D n0)),(.eq C n4),(.lt B fN)] [[1,0,1,0,0,1]] rfl [a,b,(a-8)] [] q0 h0 h1)
theorem RY:a<=148->a<256:=ah (.lt B iB) [(.le B fV)] [[1,1]] rfl [a] []
theorem RZ:a=4->¬(b<8)->¬(b<12)->a<=b-8:=fun h0 h1 h2=>(spS b 8).elim (fun q0=>ah (.le B D) [(.eq (.a D n8) C),(.eq B n4),(.no (.lt C n8)),(.no (.lt C fN))] [[1,0,1,1,0,0,1]] rfl [a,b,(b-8)] [] q0 h0 h1 h2) (fun q0=>ah (.le B D) [(.d (.lt C n8) (.eq D n0)),(.eq B n4),(.no (.lt C n8)),(.no (.lt C fN))] [[0,1,0,0,0,0,1]] rfl [a,b,(b-8)] [] q0 h0 h1 h2)
theorem R0:32<=a->32<=(a:Int):=ah (.Le (.n 32) (.c B)) [(.le (.n 32) B)] [[1,1]] rfl [a] []
theorem R1:a<127->(a:Int)<127:=ah (.Lt (.c B) (.n 127)) [(.lt B (.n 127))] [[1,1]] rfl [a] []
theorem R2:b<=100->a=b->min a b<=100000:=fun h0 h1=>(i8 a b).elim (fun q0=>ah (.le D aJ) [(.d (.le B C) (.eq D B)),(.le C eB),(.eq B C)] [[1,1,1,0,1]] rfl [a,b,(min a b)] [] q0 h0 h1) (fun q0=>ah (.le D aJ) [(.d (.lt C B) (.eq D C)),(.le C eB),(.eq B C)] [[0,1,0,0,0,1]] rfl [a,b,(min a b)] [] q0 h0 h1)
theorem R3:a<160->a<208:=ah (.lt B (.n 208)) [(.lt B cM)] [[1,1]] rfl [a] []
theorem R4:160<=208+a:=ah (.le cM (.a (.n 208) B)) [] [[1,1]] rfl [a] []
theorem R5:Int.natAbs u<2 ^ 64-> -(2 ^ 64)<u:=by lia
theorem R6:Int.natAbs u<2 ^ 64->u<2 ^ 64:=by lia
theorem R7:b<=100->c<=b->a=c->a<=100000:=ah (.le B aJ) [(.le C eB),(.le D C),(.eq B D)] [[1,1,1,1]] rfl [a,b,c] []
theorem Wy:b<=8->a<b->8*(a:Int)<=1000000:=ah (.Le (.m 8 (.c B)) (.n 1000000)) [(.le C n8),(.lt B C)] [[1,8,8]] rfl [a,b] []
theorem Wz:a<256->Int.natAbs (a:Int)<2 ^ 64:=by lia
theorem WA:0<=u/\u<=v/\v<=(a:Int)/\b=Int.toNat v-Int.toNat u/\a<=100000/\c<d->u=((Int.toNat u:Nat):Int):=fun h0=>(spT u).elim (fun q0=>ah (.Eq B (.c G)) [(.Eq (.c G) B),(.d (.Le n0 B) (.d (.Le B C) (.d (.Le C (.c B)) (.d (.eq C F) (.d (.le B aJ) (.lt D E))))))] [[1,1],[1,0,1]] rfl [a,b,c,d,((Int.toNat v)-(Int.toNat u)),(Int.toNat u),(Int.toNat v)] [u,v] q0 h0) (fun q0=>ah (.Eq B (.c G)) [(.d (.Lt B n0) (.eq G n0)),(.d (.Le n0 B) (.d (.Le B C) (.d (.Le C (.c B)) (.d (.eq C F) (.d (.le B aJ) (.lt D E))))))] [[0,1,0,0,1],[0,1,0,0,1]] rfl [a,b,c,d,((Int.toNat v)-(Int.toNat u)),(Int.toNat u),(Int.toNat v)] [u,v] q0 h0)
theorem WB:0<=(a:Int)/\(a:Int)<=u/\u<=(b:Int)/\c=Int.toNat u-Int.toNat (a:Int)/\b<=100000/\d<e->u=((Int.toNat u:Nat):Int):=fun h0=>(spT u).elim (fun q0=>ah (.Eq B (.c H)) [(.Eq (.c H) B),(.d (.Le n0 (.c B)) (.d (.Le (.c B) B) (.d (.Le B (.c C)) (.d (.eq D G) (.d (.le C aJ) (.lt E F))))))] [[1,1],[1,0,1]] rfl [a,b,c,d,e,((Int.toNat u)-(Int.toNat ((a:Nat):Int))),(Int.toNat u),(Int.toNat ((a:Nat):Int))] [u] q0 h0) (fun q0=>ah (.Eq B (.c H)) [(.d (.Lt B n0) (.eq H n0)),(.d (.Le n0 (.c B)) (.d (.Le (.c B) B) (.d (.Le B (.c C)) (.d (.eq D G) (.d (.le C aJ) (.lt E F))))))] [[0,1,0,0,1,1],[0,1,0,0,1,1]] rfl [a,b,c,d,e,((Int.toNat u)-(Int.toNat ((a:Nat):Int))),(Int.toNat u),(Int.toNat ((a:Nat):Int))] [u] q0 h0)
theorem WC:0<=(a:Int)/\(a:Int)<=(b:Int)/\(b:Int)<=(c:Int)/\d=Int.toNat (b:Int)-Int.toNat (a:Int)/\c<=100000/\e<i->a<=b:=fun h0=>ah (.le B C) [(.d (.Le n0 (.c B)) (.d (.Le (.c B) (.c C)) (.d (.Le (.c C) (.c D)) (.d (.eq E H) (.d (.le D aJ) (.lt F G))))))] [[1,0,1]] rfl [a,b,c,d,e,i,((Int.toNat ((b:Nat):Int))-(Int.toNat ((a:Nat):Int))),(Int.toNat ((a:Nat):Int)),(Int.toNat ((b:Nat):Int))] [] h0
theorem WD:0<=(c:Int)/\(c:Int)<=(a:Int)/\(a:Int)<=(b:Int)/\d=Int.toNat (a:Int)-Int.toNat (c:Int)/\b<=100000/\e<i->a<=b:=fun h0=>ah (.le B C) [(.d (.Le n0 (.c D)) (.d (.Le (.c D) (.c B)) (.d (.Le (.c B) (.c C)) (.d (.eq E H) (.d (.le C aJ) (.lt F G))))))] [[1,0,0,1]] rfl [a,b,c,d,e,i,((Int.toNat ((a:Nat):Int))-(Int.toNat ((c:Nat):Int))),(Int.toNat ((c:Nat):Int)),(Int.toNat ((a:Nat):Int))] [] h0
theorem WE:¬(a=b)->a+1≠b+1:=fun h0=>(G_ h0).elim (fun q0=>ah (.no (.eq (.a B n1) (.a C n1))) [(.lt B C)] [[0,1,1]] rfl [a,b] [] q0) (fun q0=>ah (.no (.eq (.a B n1) (.a C n1))) [(.lt C B)] [[1,0,1]] rfl [a,b] [] q0)
theorem WG:b<=100->min a b<=99999:=fun h0=>(i8 a b).elim (fun q0=>ah (.le D (.n 99999)) [(.d (.le B C) (.eq D B)),(.le C eB)] [[1,1,1,0,1]] rfl [a,b,(min a b)] [] q0 h0) (fun q0=>ah (.le D (.n 99999)) [(.d (.lt C B) (.eq D C)),(.le C eB)] [[1,0,1,0,1]] rfl [a,b,(min a b)] [] q0 h0)
theorem WH:b<=100*c->a<=100->a+b<=100*(c+1):=ah (.le (.a B C) (.m 100 (.a D n1))) [(.le C (.m 100 D)),(.le B eB)] [[1,1,1]] rfl [a,b,c] []
theorem WI:b<=100->min a b<=100:=fun h0=>(i8 a b).elim (fun q0=>ah (.le D eB) [(.d (.le B C) (.eq D B)),(.le C eB)] [[1,1,1,0,1]] rfl [a,b,(min a b)] [] q0 h0) (fun q0=>ah (.le D eB) [(.d (.lt C B) (.eq D C)),(.le C eB)] [[1,0,1,0,1]] rfl [a,b,(min a b)] [] q0 h0)
theorem WJ:a<=100*c->c<=100->b<=100->a+b<=100000:=ah (.le (.a B C) aJ) [(.le B (.m 100 D)),(.le D eB),(.le C eB)] [[1,1,100,1]] rfl [a,b,c] []
theorem WK:10+(b:Int)=u->b<a->10<=u/\u<10+(a:Int):=ah (.d (.Le dY B) (.Lt B (.a dY (.c B)))) [(.Eq (.a dY (.c C)) B),(.lt C B)] [[1,1,0,0,0,1],[1,0,1,1]] rfl [a,b] [u]
theorem WL:10<=u/\u<10+(a:Int)->Int.toNat (u-10)<a:=fun h0=>(spT (u-(10:Int))).elim (fun q0=>ah (.lt C B) [(.Eq (.c C) (.s B dY)),(.d (.Le dY B) (.Lt B (.a dY (.c B))))] [[1,1,0,0,1]] rfl [a,(Int.toNat (u-(10:Int)))] [u] q0 h0) (fun q0=>ah (.lt C B) [(.d (.Lt (.s B dY) n0) (.eq C n0)),(.d (.Le dY B) (.Lt B (.a dY (.c B))))] [[0,1,0,0,1]] rfl [a,(Int.toNat (u-(10:Int)))] [u] q0 h0)
theorem WM:10<=u/\u<10+(a:Int)->10+((Int.toNat (u-10):Nat):Int)=u:=fun h0=>(spT (u-(10:Int))).elim (fun q0=>ah (.Eq (.a dY (.c C)) B) [(.Eq (.c C) (.s B dY)),(.d (.Le dY B) (.Lt B (.a dY (.c B))))] [[1,0,1],[1,1]] rfl [a,(Int.toNat (u-(10:Int)))] [u] q0 h0) (fun q0=>ah (.Eq (.a dY (.c C)) B) [(.d (.Lt (.s B dY) n0) (.eq C n0)),(.d (.Le dY B) (.Lt B (.a dY (.c B))))] [[0,1,0,0,1],[0,1,0,0,1]] rfl [a,(Int.toNat (u-(10:Int)))] [u] q0 h0)
theorem WN:b<=6->min a b<=6:=fun h0=>(i8 a b).elim (fun q0=>ah (.le D (.n 6)) [(.d (.le B C) (.eq D B)),(.le C (.n 6))] [[1,1,1,0,1]] rfl [a,b,(min a b)] [] q0 h0) (fun q0=>ah (.le D (.n 6)) [(.d (.lt C B) (.eq D C)),(.le C (.n 6))] [[1,0,1,0,1]] rfl [a,b,(min a b)] [] q0 h0)
theorem WO:b<=c->c<=6->a<=b->a<=100000:=ah (.le B aJ) [(.le C D),(.le D (.n 6)),(.le B C)] [[1,1,1,1]] rfl [a,b,c] []
theorem WQ:a<=0->a+1<=10:=ah (.le (.a B n1) dY) [(.le B n0)] [[1,1]] rfl [a] []
theorem WR:a<=4000->a+1<4096:=ah (.lt (.a B n1) (.n 4096)) [(.le B (.n 4000))] [[1,1]] rfl [a] []
theorem WS:b<64->a=b->a<64:=ah (.lt B (.n 64)) [(.lt C (.n 64)),(.eq B C)] [[1,1,1]] rfl [a,b] []
theorem WT:b<=a/\a<=b+c->a=b+(c-(b+c-a)):=fun h0=>(spS (b+c) a).elim (fun q0=>(spS c ((b+c)-a)).elim (fun q1=>ah (.eq B (.a C E)) [(.eq (.a E F) D),(.eq (.a F B) (.a C D)),(.d (.le C B) (.le B (.a C D)))] [[1,1,0,0,1],[1,0,1,1]] rfl [a,b,c,(c-((b+c)-a)),((b+c)-a)] [] q1 q0 h0) (fun q1=>ah (.eq B (.a C E)) [(.d (.lt D F) (.eq E n0)),(.eq (.a F B) (.a C D)),(.d (.le C B) (.le B (.a C D)))] [[1,0,1,0,0,0,1],[0,1,0,0,1,0,1]] rfl [a,b,c,(c-((b+c)-a)),((b+c)-a)] [] q1 q0 h0)) (fun q0=>ah (.eq B (.a C E)) [(.d (.lt (.a C D) B) (.eq F n0)),(.d (.le C B) (.le B (.a C D)))] [[0,1,0,0,0,1],[0,1,0,0,0,1]] rfl [a,b,c,(c-((b+c)-a)),((b+c)-a)] [] q0 h0)
theorem WU:a<=100*c->c<=10->b<=100->a+b<=100000:=ah (.le (.a B C) aJ) [(.le B (.m 100 D)),(.le D dY),(.le C eB)] [[1,1,100,1]] rfl [a,b,c] []
theorem WV:c=a+1->c<b->a<b:=ah (.lt B C) [(.eq D (.a B n1)),(.lt D C)] [[1,0,1,1]] rfl [a,b,c] []
theorem WW:b<=10->a<=100*b->a<=4000:=ah (.le B (.n 4000)) [(.le C dY),(.le B (.m 100 C))] [[1,100,1]] rfl [a,b] []
theorem WX:c=a+1->c<d->b=d+1->a<b:=ah (.lt B C) [(.eq D (.a B n1)),(.lt D E),(.eq C (.a E n1))] [[1,0,1,1,0,1]] rfl [a,b,c,d] []
theorem WY:c=a+1->c<d->e=d+1->e<=b->a<b:=ah (.lt B C) [(.eq D (.a B n1)),(.lt D E),(.eq F (.a E n1)),(.le F C)] [[1,0,1,1,0,1,1]] rfl [a,b,c,d,e] []
theorem WZ:b<=100->a=b->1+(a-2)<=100000:=fun h0 h1=>(spS a 2).elim (fun q0=>ah (.le (.a n1 D) aJ) [(.eq (.a D n2) B),(.le C eB),(.eq B C)] [[1,1,0,1,1]] rfl [a,b,(a-2)] [] q0 h0 h1) (fun q0=>ah (.le (.a n1 D) aJ) [(.d (.lt B n2) (.eq D n0)),(.le C eB),(.eq B C)] [[1,0,1]] rfl [a,b,(a-2)] [] q0 h0 h1)
theorem W0:b<=100->a=b->1+(a-3)<=100000:=fun h0 h1=>(spS a 3).elim (fun q0=>ah (.le (.a n1 D) aJ) [(.eq (.a D n3) B),(.le C eB),(.eq B C)] [[1,1,0,1,1]] rfl [a,b,(a-3)] [] q0 h0 h1) (fun q0=>ah (.le (.a n1 D) aJ) [(.d (.lt B n3) (.eq D n0)),(.le C eB),(.eq B C)] [[1,0,1]] rfl [a,b,(a-3)] [] q0 h0 h1)
theorem W2:a+16*9+12<b->a+40<b:=ah (.lt (.a B (.n 40)) C) [(.lt (.a (.a B (.m 16 (.n 9))) fN) C)] [[1,1]] rfl [a,b] []
theorem W3:0<=u->0<=v->0<=u+v:=ah (.Le n0 (.a B C)) [(.Le n0 B),(.Le n0 C)] [[1,1,1]] rfl [] [u,v]
theorem W4:0<=u->0<=w->v=u+w->0<=u/\u<=v:=ah (.d (.Le n0 B) (.Le B C)) [(.Le n0 B),(.Le n0 D),(.Eq C (.a B D))] [[1,1],[1,0,1,0,1]] rfl [] [u,v,w]
theorem W5:0<=v->u<=u+v:=ah (.Le B (.a B C)) [(.Le n0 C)] [[1,1]] rfl [] [u,v]
theorem W6:0<=v->u<=w->u<=v+w:=ah (.Le B (.a C D)) [(.Le n0 C),(.Le B D)] [[1,1,1]] rfl [] [u,v,w]
theorem W7:w<2 ^ 62->0<=v/\v<=w->u<=w->0<=u->(-(2 ^ 63)<=u/\u<2 ^ 63)/\ -(2 ^ 63)<=v/\v<2 ^ 63:=ah (.d (.d (.Le (.s n0 bw) B) (.Lt B bw)) (.d (.Le (.s n0 bw) C) (.Lt C bw))) [(.Lt D aZ),(.d (.Le n0 C) (.Le C D)),(.Le B D),(.Le n0 B)] [[1,0,0,0,0,1],[1,1,0,0,1],[1,0,1],[1,1,0,1]] rfl [] [u,v,w]
theorem W8:u<=255*(b:Int)->a<2 ^ 8->(a:Int)+u<=255*((b+1:Nat):Int):=ah (.Le (.a (.c B) B) (.m 255 (.c (.a C n1)))) [(.Le B (.m 255 (.c C))),(.lt B iB)] [[1,1,1]] rfl [a,b] [u]
theorem W9:a<=100000->u<=255*(a:Int)->u<2 ^ 62:=ah (.Lt B aZ) [(.le B aJ),(.Le B (.m 255 (.c B)))] [[1,255,1]] rfl [a] [u]
theorem W_:min 6 a<=6:=(i8 6 a).elim (fun q0=>ah (.le C (.n 6)) [(.d (.le (.n 6) B) (.eq C (.n 6)))] [[1,0,1]] rfl [a,(min 6 a)] [] q0) (fun q0=>ah (.le C (.n 6)) [(.d (.lt B (.n 6)) (.eq C B))] [[1,1,1]] rfl [a,(min 6 a)] [] q0)
theorem Xa:3<a->(a:Int)>3:=ah (.Lt n3 (.c B)) [(.lt n3 B)] [[1,1]] rfl [a] []
theorem Xb:¬(3<a)->¬((a:Int)>3):=ah (.no (.Lt n3 (.c B))) [(.no (.lt n3 B))] [[1,1]] rfl [a] []
theorem Xc:b<=6->a=b->a<=6:=ah (.le B (.n 6)) [(.le C (.n 6)),(.eq B C)] [[1,1,1]] rfl [a,b] []
theorem Xd:a+3*2<b->a+1+3*1<b:=ah (.lt (.a (.a B n1) (.m 3 n1)) C) [(.lt (.a B (.m 3 n2)) C)] [[1,1]] rfl [a,b] []
theorem Xe:a+16*2+12<b->a+1+28<b:=ah (.lt (.a (.a B n1) (.n 28)) C) [(.lt (.a (.a B (.m 16 n2)) fN) C)] [[1,1]] rfl [a,b] []
theorem Xf:0+1<=16777216+1:=ah (.le (.a n0 n1) (.a eg n1)) [] [[1]] rfl [] []
theorem Xg:a+16*(b+1)+12<c->a+1+16*b+12<c:=ah (.lt (.a (.a (.a B n1) (.m 16 C)) fN) D) [(.lt (.a (.a B (.m 16 (.a C n1))) fN) D)] [[1,1]] rfl [a,b,c] []
theorem Xh:a<b+1+1->a<b\/a=b\/a=b+1:=by lia
theorem Xi:a<b->¬(a=b+1):=ah (.no (.eq B (.a C n1))) [(.lt B C)] [[0,1,1]] rfl [a,b] []
theorem Xj:a<b->¬(a=b):=ah (.no (.eq B C)) [(.lt B C)] [[0,1,1]] rfl [a,b] []
theorem Xk:a<=a+1+1:=ah (.le B (.a (.a B n1) n1)) [] [[1]] rfl [a] []
theorem Xl:¬(a=a+1):=ah (.no (.eq B (.a B n1))) [] [[0,1]] rfl [a] []
theorem Xm:b=a+2->a<=b:=ah (.le B C) [(.eq C (.a B n2))] [[1,0,1]] rfl [a,b] []
theorem Xn:b<=c->¬(c<=a)->b<=a->a-b<=c-b:=fun h0 h1 h2=>(spS a b).elim (fun q0=>(spS c b).elim (fun q1=>ah (.le E F) [(.eq (.a F C) D),(.eq (.a E C) B),(.le C D),(.no (.le D B)),(.le C B)] [[1,0,1,1,0,0,1]] rfl [a,b,c,(a-b),(c-b)] [] q1 q0 h0 h1 h2) (fun q1=>ah (.le E F) [(.d (.lt D C) (.eq F n0)),(.eq (.a E C) B),(.le C D),(.no (.le D B)),(.le C B)] [[0,1,0,0,0,0,1]] rfl [a,b,c,(a-b),(c-b)] [] q1 q0 h0 h1 h2)) (fun q0=>ah (.le E F) [(.d (.lt B C) (.eq E n0)),(.le C D),(.no (.le D B)),(.le C B)] [[0,1,0,0,0,0,1]] rfl [a,b,c,(a-b),(c-b)] [] q0 h0 h1 h2)
theorem Xo:min (a-b) (c-b)<=c:=(i8 (a-b) (c-b)).elim (fun q0=>(spS c b).elim (fun q1=>ah (.le E D) [(.eq (.a G C) D),(.d (.le F G) (.eq E F))] [[1,1,0,1,1,0,0,1]] rfl [a,b,c,(min (a-b) (c-b)),(a-b),(c-b)] [] q1 q0) (fun q1=>ah (.le E D) [(.d (.lt D C) (.eq G n0)),(.d (.le F G) (.eq E F))] [[1,0,1,0,1,1,0,0,0,1]] rfl [a,b,c,(min (a-b) (c-b)),(a-b),(c-b)] [] q1 q0)) (fun q0=>(spS c b).elim (fun q1=>ah (.le E D) [(.eq (.a G C) D),(.d (.lt G F) (.eq E G))] [[1,1,0,0,1,0,0,1]] rfl [a,b,c,(min (a-b) (c-b)),(a-b),(c-b)] [] q1 q0) (fun q1=>ah (.le E D) [(.d (.lt D C) (.eq G n0)),(.d (.lt G F) (.eq E G))] [[1,0,1,0,0,1,0,0,0,1]] rfl [a,b,c,(min (a-b) (c-b)),(a-b),(c-b)] [] q1 q0))
theorem Xp:u<256->¬(u>=256):=ah (.no (.Le iB B)) [(.Lt B iB)] [[1,1]] rfl [] [u]
theorem Xq:a<=100000->a<=100000:=ah (.le B aJ) [(.le B aJ)] [[1,1]] rfl [a] []
theorem Xr:c=b+2->a<=c->c<=a+2->a=b\/a=b+1\/a=b+2:=by lia
theorem Xs:b=c+2->a=c->a+2-b=0:=fun h0 h1=>(spS (a+2) b).elim (fun q0=>ah (.eq E n0) [(.eq (.a E C) (.a B n2)),(.eq C (.a D n2)),(.eq B D)] [[1,0,0,0,0,0,0,0,0,0,1],[1,1,0,0,1,1]] rfl [a,b,c,((a+2)-b)] [] q0 h0 h1) (fun q0=>ah (.eq E n0) [(.d (.lt (.a B n2) C) (.eq E n0)),(.eq C (.a D n2)),(.eq B D)] [[0,1,0,0,1,0,0,1],[0,1,0,0,1,0,0,1]] rfl [a,b,c,((a+2)-b)] [] q0 h0 h1)
theorem Xu:b=c+2->a=c+1->a+2-b=1:=fun h0 h1=>(spS (a+2) b).elim (fun q0=>ah (.eq E n1) [(.eq (.a E C) (.a B n2)),(.eq C (.a D n2)),(.eq B (.a D n1))] [[1,0,1,1,0,0,1],[1,1,0,0,1,1]] rfl [a,b,c,((a+2)-b)] [] q0 h0 h1) (fun q0=>ah (.eq E n1) [(.d (.lt (.a B n2) C) (.eq E n0)),(.eq C (.a D n2)),(.eq B (.a D n1))] [[0,1,0,0,1,0,0,1],[0,1,0,0,1,0,0,1]] rfl [a,b,c,((a+2)-b)] [] q0 h0 h1)
theorem Xv:b=c+2->a=c+2->a+2-b=2:=fun h0 h1=>(spS (a+2) b).elim (fun q0=>ah (.eq E n2) [(.eq (.a E C) (.a B n2)),(.eq C (.a D n2)),(.eq B (.a D n2))] [[1,0,1,1,0,0,1],[1,1,0,0,1,1]] rfl [a,b,c,((a+2)-b)] [] q0 h0 h1) (fun q0=>ah (.eq E n2) [(.d (.lt (.a B n2) C) (.eq E n0)),(.eq C (.a D n2)),(.eq B (.a D n2))] [[0,1,0,0,1,0,0,1],[0,1,0,0,1,0,0,1]] rfl [a,b,c,((a+2)-b)] [] q0 h0 h1)
theorem Xw:b<=10->a<=b->a<=10:=ah (.le B dY) [(.le C dY),(.le B C)] [[1,1,1]] rfl [a,b] []
theorem Xx:b<=5->a=b->u=1/\1<b->7+7*min 2 a+7*(a-2)<=42:=fun h0 h1 h2=>(i8 2 a).elim (fun q0=>(spS a 2).elim (fun q1=>ah (.le (.a (.a n7 (.m 7 D)) (.m 7 E)) (.n 42)) [(.eq (.a E n2) B),(.d (.le n2 B) (.eq D n2)),(.le C n5),(.eq B C),(.d (.Eq B n1) (.lt n1 C))] [[1,7,0,0,7,0,7,7]] rfl [a,b,(min 2 a),(a-2)] [u] q1 q0 h0 h1 h2) (fun q1=>ah (.le (.a (.a n7 (.m 7 D)) (.m 7 E)) (.n 42)) [(.d (.lt B n2) (.eq E n0)),(.d (.le n2 B) (.eq D n2)),(.le C n5),(.eq B C),(.d (.Eq B n1) (.lt n1 C))] [[1,0,7,0,0,7]] rfl [a,b,(min 2 a),(a-2)] [u] q1 q0 h0 h1 h2)) (fun q0=>ah (.le (.a (.a n7 (.m 7 D)) (.m 7 E)) (.n 42)) [(.d (.lt B n2) (.eq D B)),(.le C n5),(.eq B C),(.d (.Eq B n1) (.lt n1 C))] [[0,1,0,0,0,0,1,0,0,1]] rfl [a,b,(min 2 a),(a-2)] [u] q0 h0 h1 h2)
theorem Xy:b<=5->a=b->u=2/\2<b->7+7*min 3 a+7*(a-3)<=42:=fun h0 h1 h2=>(i8 3 a).elim (fun q0=>(spS a 3).elim (fun q1=>ah (.le (.a (.a n7 (.m 7 D)) (.m 7 E)) (.n 42)) [(.eq (.a E n3) B),(.d (.le n3 B) (.eq D n3)),(.le C n5),(.eq B C),(.d (.Eq B n2) (.lt n2 C))] [[1,7,0,0,7,0,7,7]] rfl [a,b,(min 3 a),(a-3)] [u] q1 q0 h0 h1 h2) (fun q1=>ah (.le (.a (.a n7 (.m 7 D)) (.m 7 E)) (.n 42)) [(.d (.lt B n3) (.eq E n0)),(.d (.le n3 B) (.eq D n3)),(.le C n5),(.eq B C),(.d (.Eq B n2) (.lt n2 C))] [[1,0,7,0,0,7]] rfl [a,b,(min 3 a),(a-3)] [u] q1 q0 h0 h1 h2)) (fun q0=>ah (.le (.a (.a n7 (.m 7 D)) (.m 7 E)) (.n 42)) [(.d (.lt B n3) (.eq D B)),(.le C n5),(.eq B C),(.d (.Eq B n2) (.lt n2 C))] [[0,1,0,0,0,0,1,0,0,1]] rfl [a,b,(min 3 a),(a-3)] [u] q0 h0 h1 h2)
theorem Xz:b<=5->a=b->7*a<=42:=ah (.le (.m 7 B) (.n 42)) [(.le C n5),(.eq B C)] [[1,7,7]] rfl [a,b] []
theorem XA:a<=5->b<=42->4+(4+(1+(1+a+(8+(4+(1+b))))))<=148:=ah (.le (.a n4 (.a n4 (.a n1 (.a (.a n1 B) (.a n8 (.a n4 (.a n1 C))))))) fV) [(.le B n5),(.le C (.n 42))] [[1,1,1]] rfl [a,b] []
theorem XB:0<=u/\u<3->0<=1+u/\1+u<2 ^ 32:=ah (.d (.Le n0 (.a n1 B)) (.Lt (.a n1 B) c6)) [(.d (.Le n0 B) (.Lt B n3))] [[1,1],[1,0,1]] rfl [] [u]
theorem XC:c=a+2->d=c->e=d->b=e->a<b:=ah (.lt B C) [(.eq D (.a B n2)),(.eq E D),(.eq F E),(.eq C F)] [[1,0,1,0,1,0,1,0,1]] rfl [a,b,c,d,e] []
theorem XD:c=a+2->d=c->e=d->i=e->b=i->a<b:=ah (.lt B C) [(.eq D (.a B n2)),(.eq E D),(.eq F E),(.eq G F),(.eq C G)] [[1,0,1,0,1,0,1,0,1,0,1]] rfl [a,b,c,d,e,i] []
theorem XE:c=a+2->d=c->e=d->i=e->j=i->b=j->a<b:=ah (.lt B C) [(.eq D (.a B n2)),(.eq E D),(.eq F E),(.eq G F),(.eq H G),(.eq C H)] [[1,0,1,0,1,0,1,0,1,0,1,0,1]] rfl [a,b,c,d,e,i,j] []
theorem XF:c=a+2->d=c->e=d->i=e->j=i->k=j->b=k->a<b:=ah (.lt B C) [(.eq D (.a B n2)),(.eq E D),(.eq F E),(.eq G F),(.eq H G),(.eq J H),(.eq C J)] [[1,0,1,0,1,0,1,0,1,0,1,0,1,0,1]] rfl [a,b,c,d,e,i,j,k] []
theorem XG:c=a+2->d=c->e=d->i=e->j=i->k=j->l=k->b=l->a<b:=ah (.lt B C) [(.eq D (.a B n2)),(.eq E D),(.eq F E),(.eq G F),(.eq H G),(.eq J H),(.eq K J),(.eq C K)] [[1,0,1,0,1,0,1,0,1,0,1,0,1,0,1,0,1]] rfl [a,b,c,d,e,i,j,k,l] []
theorem XH:c=a+2->d=c->e=d->i=e->j=i->k=j->l=k->m=l->b=m->a<b:=ah (.lt B C) [(.eq D (.a B n2)),(.eq E D),(.eq F E),(.eq G F),(.eq H G),(.eq J H),(.eq K J),(.eq L K),(.eq C L)] [[1,0,1,0,1,0,1,0,1,0,1,0,1,0,1,0,1,0,1]] rfl [a,b,c,d,e,i,j,k,l,m] []
theorem XI:c=a+2->d=c->e=d->i=e->j=i->k=j->l=k->m=l->n=m->b=n->a<b:=ah (.lt B C) [(.eq D (.a B n2)),(.eq E D),(.eq F E),(.eq G F),(.eq H G),(.eq J H),(.eq K J),(.eq L K),(.eq v10 L),(.eq C v10)] [[1,0,1,0,1,0,1,0,1,0,1,0,1,0,1,0,1,0,1,0,1]] rfl [a,b,c,d,e,i,j,k,l,m,n] []
theorem XJ:c=a+2->d=c->e=d->i=e->j=i->k=j->l=k->m=l->n=m->o=n->b=o->a<b:=ah (.lt B C) [(.eq D (.a B n2)),(.eq E D),(.eq F E),(.eq G F),(.eq H G),(.eq J H),(.eq K J),(.eq L K),(.eq v10 L),(.eq v11 v10),(.eq C v11)] [[1,0,1,0,1,0,1,0,1,0,1,0,1,0,1,0,1,0,1,0,1,0,1]] rfl [a,b,c,d,e,i,j,k,l,m,n,o] []
theorem XK:c=a+2->d=c->e=d->i=e->j=i->k=j->l=k->m=l->n=m->o=n->p=o->b=p->a+1<b:=ah (.lt (.a B n1) C) [(.eq D (.a B n2)),(.eq E D),(.eq F E),(.eq G F),(.eq H G),(.eq J H),(.eq K J),(.eq L K),(.eq v10 L),(.eq v11 v10),(.eq O_ v11),(.eq C O_)] [[1,0,1,0,1,0,1,0,1,0,1,0,1,0,1,0,1,0,1,0,1,0,1,0,1]] rfl [a,b,c,d,e,i,j,k,l,m,n,o,p] []
theorem XM:c=a+2->d=c->e=d->i=e->j=i->k=j->l=k->m=l->n=m->o=n->p=o->b=p->a<=b:=ah (.le B C) [(.eq D (.a B n2)),(.eq E D),(.eq F E),(.eq G F),(.eq H G),(.eq J H),(.eq K J),(.eq L K),(.eq v10 L),(.eq v11 v10),(.eq O_ v11),(.eq C O_)] [[1,0,1,0,1,0,1,0,1,0,1,0,1,0,1,0,1,0,1,0,1,0,1,0,1]] rfl [a,b,c,d,e,i,j,k,l,m,n,o,p] []
theorem XN:a+1<c->c<=b->a+1<b:=ah (.lt (.a B n1) C) [(.lt (.a B n1) D),(.le D C)] [[1,1,1]] rfl [a,b,c] []
theorem XO:a+1<b->a≠b+1:=ah (.no (.eq B (.a C n1))) [(.lt (.a B n1) C)] [[0,1,1]] rfl [a,b] []
theorem XQ:a+1<b->a+1≠b+1:=ah (.no (.eq (.a B n1) (.a C n1))) [(.lt (.a B n1) C)] [[0,1,1]] rfl [a,b] []
theorem XR:c=a+2->b=c->a+1<b:=ah (.lt (.a B n1) C) [(.eq D (.a B n2)),(.eq C D)] [[1,0,1,0,1]] rfl [a,b,c] []
theorem XS:c=a+2->b=c->a<b+1:=ah (.lt B (.a C n1)) [(.eq D (.a B n2)),(.eq C D)] [[1,0,1,0,1]] rfl [a,b,c] []
theorem XT:c=a+2->d=c->b=d+1->a<b:=ah (.lt B C) [(.eq D (.a B n2)),(.eq E D),(.eq C (.a E n1))] [[1,0,1,0,1,0,1]] rfl [a,b,c,d] []
theorem XU:c=a+2->d=c->b=d+1->a+1<b:=ah (.lt (.a B n1) C) [(.eq D (.a B n2)),(.eq E D),(.eq C (.a E n1))] [[1,0,1,0,1,0,1]] rfl [a,b,c,d] []
theorem XW:c=a+2->d=c->b=d+1->a<b+1:=ah (.lt B (.a C n1)) [(.eq D (.a B n2)),(.eq E D),(.eq C (.a E n1))] [[1,0,1,0,1,0,1]] rfl [a,b,c,d] []
theorem XX:c=a+2->d=c->e=d+1->b=e+1->a<b:=ah (.lt B C) [(.eq D (.a B n2)),(.eq E D),(.eq F (.a E n1)),(.eq C (.a F n1))] [[1,0,1,0,1,0,1,0,1]] rfl [a,b,c,d,e] []
theorem XY:c=a+2->d=c->e=d+1->i=e+1->b=i->a<b:=ah (.lt B C) [(.eq D (.a B n2)),(.eq E D),(.eq F (.a E n1)),(.eq G (.a F n1)),(.eq C G)] [[1,0,1,0,1,0,1,0,1,0,1]] rfl [a,b,c,d,e,i] []
theorem XZ:c=a+2->d=c->e=d+1->i=e+1->j=i->b=j->a<b:=ah (.lt B C) [(.eq D (.a B n2)),(.eq E D),(.eq F (.a E n1)),(.eq G (.a F n1)),(.eq H G),(.eq C H)] [[1,0,1,0,1,0,1,0,1,0,1,0,1]] rfl [a,b,c,d,e,i,j] []
theorem X0:c=a+2->d=c->e=d+1->i=e+1->j=i->k=j->b=k->a+1<b/\a+2<b/\a+3<b:=ah (.d (.lt (.a B n1) C) (.d (.lt (.a B n2) C) (.lt (.a B n3) C))) [(.eq D (.a B n2)),(.eq E D),(.eq F (.a E n1)),(.eq G (.a F n1)),(.eq H G),(.eq J H),(.eq C J)] [[1,0,1,0,1,0,1,0,1,0,1,0,1,0,1],[1,0,1,0,1,0,1,0,1,0,1,0,1,0,1],[1,0,1,0,1,0,1,0,1,0,1,0,1,0,1]] rfl [a,b,c,d,e,i,j,k] []
theorem X1:c=a+2->d=c->e=d+1->i=e+1->j=i->k=j->b=k->a<=b:=ah (.le B C) [(.eq D (.a B n2)),(.eq E D),(.eq F (.a E n1)),(.eq G (.a F n1)),(.eq H G),(.eq J H),(.eq C J)] [[1,0,1,0,1,0,1,0,1,0,1,0,1,0,1]] rfl [a,b,c,d,e,i,j,k] []
theorem X2:c=a+2->d=c->b=d+1->a+2<b:=ah (.lt (.a B n2) C) [(.eq D (.a B n2)),(.eq E D),(.eq C (.a E n1))] [[1,0,1,0,1,0,1]] rfl [a,b,c,d] []
theorem X3:c=a+2->d=c->b=d+1->a+3=b:=ah (.eq (.a B n3) C) [(.eq D (.a B n2)),(.eq E D),(.eq C (.a E n1))] [[1,1,0,1,0,1],[1,0,1,0,1,0,1]] rfl [a,b,c,d] []
theorem X8:c=d+2->e=c->b=e+1->a<d->a<b:=ah (.lt B C) [(.eq D (.a E n2)),(.eq F D),(.eq C (.a F n1)),(.lt B E)] [[1,0,1,0,1,0,1,1]] rfl [a,b,c,d,e] []
theorem X9:c=d+2->b=c->a<d->a<b:=ah (.lt B C) [(.eq D (.a E n2)),(.eq C D),(.lt B E)] [[1,0,1,0,1,1]] rfl [a,b,c,d] []
theorem X_:b+1<=a->a-b=a-(b+1)+1:=fun h0=>(spS a b).elim (fun q0=>(spS a (b+1)).elim (fun q1=>ah (.eq D (.a E n1)) [(.eq (.a E (.a C n1)) B),(.eq (.a D C) B),(.le (.a C n1) B)] [[1,1,0,0,1],[1,0,1,1]] rfl [a,b,(a-b),(a-(b+1))] [] q1 q0 h0) (fun q1=>ah (.eq D (.a E n1)) [(.d (.lt B (.a C n1)) (.eq E n0)),(.eq (.a D C) B),(.le (.a C n1) B)] [[0,1,0,0,0,0,1],[0,1,0,0,0,0,1]] rfl [a,b,(a-b),(a-(b+1))] [] q1 q0 h0)) (fun q0=>ah (.eq D (.a E n1)) [(.d (.lt B C) (.eq D n0)),(.le (.a C n1) B)] [[0,1,0,0,1],[0,1,0,0,1]] rfl [a,b,(a-b),(a-(b+1))] [] q0 h0)
theorem Yb:(a:Int)*16+(b:Int)=((a*16+b:Nat):Int):=ah (.Eq (.a (.r (.c B) 16) (.c C)) (.c (.a (.r B 16) C))) [] [[1],[1]] rfl [a,b] []
theorem Yc:((a*16+b:Nat):Int)/16=(((a*16+b)/16:Nat):Int):=by lia
theorem Yd:((a*16+b:Nat):Int) % 16=(((a*16+b) % 16:Nat):Int):=by lia
theorem Ye:c=384->a*16+b<384->Int.toNat ((a:Int)*16+(b:Int))=a*16+b->u=(((a*16+b) % 16:Nat):Int)->0<=(a:Int)*16+(b:Int)/\(a:Int)*16+(b:Int)<(c:Int)/\c<=100000:=by lia
theorem Yg:((a:Int)+(b:Int)) % 256=(((a+b) % 256:Nat):Int):=by lia
theorem Yh:a*16+b<384->Int.toNat ((a:Int)*16+(b:Int))=a*16+b->u=(((a*16+b) % 16:Nat):Int)->(a*16+b)/16<24:=by lia
theorem Yi:Int.toNat ((a:Int)*16+(b:Int))=a*16+b->u=(((a*16+b) % 16:Nat):Int)->(a*16+b) % 16<16:=by lia
theorem Yj:u=(((a+b) % 256:Nat):Int)->(a+b) % 256<256:=by lia
theorem Yk:(a*16+b)/16*16+(a*16+b) % 16=a*16+b:=by lia
theorem Yl:0<=u/\u<4->u=((Int.toNat u:Nat):Int):=fun h0=>(spT u).elim (fun q0=>ah (.Eq B (.c B)) [(.Eq (.c B) B),(.d (.Le n0 B) (.Lt B n4))] [[1,1],[1,0,1]] rfl [(Int.toNat u)] [u] q0 h0) (fun q0=>ah (.Eq B (.c B)) [(.d (.Lt B n0) (.eq B n0)),(.d (.Le n0 B) (.Lt B n4))] [[0,1,0,0,1],[0,1,0,0,1]] rfl [(Int.toNat u)] [u] q0 h0)
theorem Ym:0<=u/\u<4->¬(u=3)->u=(a:Int)->a<3:=fun h0 h1 h2=>(spZ h1).elim (fun q0=>ah (.lt B n3) [(.Lt B n3),(.d (.Le n0 B) (.Lt B n4)),(.Eq B (.c B))] [[1,1,0,0,0,1]] rfl [a] [u] q0 h0 h2) (fun q0=>ah (.lt B n3) [(.Lt n3 B),(.d (.Le n0 B) (.Lt B n4)),(.Eq B (.c B))] [[0,1,0,1]] rfl [a] [u] q0 h0 h2)
theorem Yn:b=3->a<3->a<b:=ah (.lt B C) [(.eq C n3),(.lt B n3)] [[1,0,1,1]] rfl [a,b] []
theorem Yo:0<=u/\u<6->0<=10+u/\10+u<2 ^ 32:=ah (.d (.Le n0 (.a dY B)) (.Lt (.a dY B) c6)) [(.d (.Le n0 B) (.Lt B (.n 6)))] [[1,1],[1,0,1]] rfl [] [u]
theorem Yp:0<=u/\u<6->a<3->(10<=10+u/\10+u<=15)/\a<3:=ah (.d (.d (.Le dY (.a dY B)) (.Le (.a dY B) (.n 15))) (.lt B n3)) [(.d (.Le n0 B) (.Lt B (.n 6))),(.lt B n3)] [[1,1],[1,0,1],[1,0,0,1]] rfl [a] [u]
theorem Yq:a<=a+3:=ah (.le B (.a B n3)) [] [[1]] rfl [a] []
theorem Yr:4+a<=148->a<=100000:=ah (.le B aJ) [(.le (.a n4 B) fV)] [[1,1]] rfl [a] []
theorem Ys:0<=u/\u<160->u=((Int.toNat u:Nat):Int):=fun h0=>(spT u).elim (fun q0=>ah (.Eq B (.c B)) [(.Eq (.c B) B),(.d (.Le n0 B) (.Lt B cM))] [[1,1],[1,0,1]] rfl [(Int.toNat u)] [u] q0 h0) (fun q0=>ah (.Eq B (.c B)) [(.d (.Lt B n0) (.eq B n0)),(.d (.Le n0 B) (.Lt B cM))] [[0,1,0,0,1],[0,1,0,0,1]] rfl [(Int.toNat u)] [u] q0 h0)
theorem Yt:0<=u/\u<255->1+u=((Int.toNat (1+u):Nat):Int):=fun h0=>(spT ((1:Int)+u)).elim (fun q0=>ah (.Eq (.a n1 B) (.c B)) [(.Eq (.c B) (.a n1 B)),(.d (.Le n0 B) (.Lt B Ew))] [[1,1],[1,0,1]] rfl [(Int.toNat ((1:Int)+u))] [u] q0 h0) (fun q0=>ah (.Eq (.a n1 B) (.c B)) [(.d (.Lt (.a n1 B) n0) (.eq B n0)),(.d (.Le n0 B) (.Lt B Ew))] [[0,1,0,0,1],[0,1,0,0,1]] rfl [(Int.toNat ((1:Int)+u))] [u] q0 h0)
theorem Yu:0<=u/\u<160->u=(a:Int)->a<160:=ah (.lt B cM) [(.d (.Le n0 B) (.Lt B cM)),(.Eq B (.c B))] [[1,0,1,0,1]] rfl [a] [u]
theorem Yv:0<=u/\u<255->1+u=(a:Int)->1<=a/\a<=255:=ah (.d (.le n1 B) (.le B Ew)) [(.d (.Le n0 B) (.Lt B Ew)),(.Eq (.a n1 B) (.c B))] [[1,1,0,1],[1,0,1,0,1]] rfl [a] [u]
theorem Yw:4+b<=148->a=4+b->a<=148:=ah (.le B fV) [(.le (.a n4 C) fV),(.eq B (.a n4 C))] [[1,1,1]] rfl [a,b] []
theorem Yx:0<=u/\u<5->u=0\/u=1\/u=2\/u=3\/u=4:=by lia
theorem Yy:b=4+c->(a:Int)<16+(c:Int)->a<12+b:=ah (.lt B (.a fN C)) [(.eq C (.a n4 D)),(.Lt (.c B) (.a mr (.c D)))] [[1,0,1,1]] rfl [a,b,c] []
theorem Yz:b=4+c->¬((a:Int)<16+(c:Int))->¬(a<12+b):=ah (.no (.lt B (.a fN C))) [(.eq C (.a n4 D)),(.no (.Lt (.c B) (.a mr (.c D))))] [[1,1,0,1]] rfl [a,b,c] []
theorem YA:63<a->63<(a:Int):=ah (.Lt (.n 63) (.c B)) [(.lt (.n 63) B)] [[1,1]] rfl [a] []
theorem YB:0<=u/\u<256->0<=17+u/\17+u<2 ^ 32:=ah (.d (.Le n0 (.a (.n 17) B)) (.Lt (.a (.n 17) B) c6)) [(.d (.Le n0 B) (.Lt B iB))] [[1,1],[1,0,1]] rfl [] [u]
theorem YC:¬(v<=u)->u<=v:=ah (.Le B C) [(.no (.Le C B))] [[1,1]] rfl [] [u,v]
theorem YD:a=b+1->0<a:=ah (.lt n0 B) [(.eq B (.a C n1))] [[1,0,1,0,1]] rfl [a,b] []
theorem YE:a<=c-1->c=b+1->a<b+1:=fun h0 h1=>(spS c 1).elim (fun q0=>ah (.lt B (.a C n1)) [(.eq (.a E n1) D),(.le B E),(.eq D (.a C n1))] [[1,1,0,1,1]] rfl [a,b,c,(c-1)] [] q0 h0 h1) (fun q0=>ah (.lt B (.a C n1)) [(.d (.lt D n1) (.eq E n0)),(.le B E),(.eq D (.a C n1))] [[1,0,1,0,1,0,0,0,1]] rfl [a,b,c,(c-1)] [] q0 h0 h1)
theorem YF:b=c+1->a<c+1->a<=b-1:=fun h0 h1=>(spS b 1).elim (fun q0=>ah (.le B E) [(.eq (.a E n1) C),(.eq C (.a D n1)),(.lt B (.a D n1))] [[1,0,1,0,1,1]] rfl [a,b,c,(b-1)] [] q0 h0 h1) (fun q0=>ah (.le B E) [(.d (.lt C n1) (.eq E n0)),(.eq C (.a D n1)),(.lt B (.a D n1))] [[0,1,0,0,0,1,0,0,0,1]] rfl [a,b,c,(b-1)] [] q0 h0 h1)
theorem YG:a+b<=100000/\c<d->a+b<=16777216:=ah (.le (.a B C) eg) [(.d (.le (.a B C) aJ) (.lt D E))] [[1,1]] rfl [a,b,c,d] []
theorem YH:a+1<b+1->a<b:=ah (.lt B C) [(.lt (.a B n1) (.a C n1))] [[1,1]] rfl [a,b] []
theorem YI:b<=100000->a<b->(a:Int)<2 ^ 63-1:=ah (.Lt (.c B) (.s bw n1)) [(.le C aJ),(.lt B C)] [[1,1,1]] rfl [a,b] []
theorem YJ:a+b=b+a:=ah (.eq (.a B C) (.a C B)) [] [[1],[1]] rfl [a,b] []
theorem YK:1+(4+(1+(1+7*a)))=7+7*a:=ah (.eq (.a n1 (.a n4 (.a n1 (.a n1 (.m 7 B))))) (.a n7 (.m 7 B))) [] [[1],[1]] rfl [a] []
theorem YL:a<=4000->a<=4999:=ah (.le B (.n 4999)) [(.le B (.n 4000))] [[1,1]] rfl [a] []
theorem YM:a<=4000->a<=4995:=ah (.le B (.n 4995)) [(.le B (.n 4000))] [[1,1]] rfl [a] []
theorem YN:a<=4000->a<=4994:=ah (.le B (.n 4994)) [(.le B (.n 4000))] [[1,1]] rfl [a] []
theorem YO:b<=d->a+3*d<c->a+3*b<c:=ah (.lt (.a B (.m 3 C)) D) [(.le C E),(.lt (.a B (.m 3 E)) D)] [[1,3,1]] rfl [a,b,c,d] []
theorem YQ:b<=d->a+16*d+12<c->a+16*b+12<c:=ah (.lt (.a (.a B (.m 16 C)) fN) D) [(.le C E),(.lt (.a (.a B (.m 16 E)) fN) D)] [[1,16,1]] rfl [a,b,c,d] []
theorem YR:a+16*(b+1)+12<c->a+3+16*b+12<c:=ah (.lt (.a (.a (.a B n3) (.m 16 C)) fN) D) [(.lt (.a (.a B (.m 16 (.a C n1))) fN) D)] [[1,1]] rfl [a,b,c] []
theorem YS:0<=u->Int.toNat u=a->u=(a:Int):=fun h0 h1=>(spT u).elim (fun q0=>ah (.Eq B (.c B)) [(.Eq (.c C) B),(.Le n0 B),(.eq C B)] [[1,1,0,0,0,1],[1,0,1,0,1]] rfl [a,(Int.toNat u)] [u] q0 h0 h1) (fun q0=>ah (.Eq B (.c B)) [(.d (.Lt B n0) (.eq C n0)),(.Le n0 B),(.eq C B)] [[0,1,0,0,1],[0,1,0,0,1]] rfl [a,(Int.toNat u)] [u] q0 h0 h1)
theorem YT:0<=(a:Int)-> -(2 ^ 62)<=(a:Int):=ah (.Le (.s n0 aZ) (.c B)) [(.Le n0 (.c B))] [[1,1]] rfl [a] []
theorem YU:(a:Int)<2 ^ 60->(a:Int)<2 ^ 62:=ah (.Lt (.c B) aZ) [(.Lt (.c B) bU)] [[1,1]] rfl [a] []
theorem YV:0+(a:Int)*1=(a:Int):=ah (.Eq (.a n0 (.r (.c B) 1)) (.c B)) [] [[1],[1]] rfl [a] []
theorem YW:0<a->(0<= -1+(a:Int)/\ -1+(a:Int)<(a:Int))/\Int.toNat (-1+(a:Int))=a-1:=fun h0=>(spS a 1).elim (fun q0=>(spT ((-(1:Int))+((a:Nat):Int))).elim (fun q1=>ah (.d (.d (.Le n0 (.a (.s n0 n1) (.c B))) (.Lt (.a (.s n0 n1) (.c B)) (.c B))) (.eq C D)) [(.Eq (.c C) (.a (.s n0 n1) (.c B))),(.eq (.a D n1) B),(.lt n0 B)] [[1,0,0,0,0,1],[1],[1,0,1,1],[1,1,0,0,1]] rfl [a,(Int.toNat ((-(1:Int))+((a:Nat):Int))),(a-1)] [] q1 q0 h0) (fun q1=>ah (.d (.d (.Le n0 (.a (.s n0 n1) (.c B))) (.Lt (.a (.s n0 n1) (.c B)) (.c B))) (.eq C D)) [(.d (.Lt (.a (.s n0 n1) (.c B)) n0) (.eq C n0)),(.eq (.a D n1) B),(.lt n0 B)] [[1,0,0,0,0,0,1],[1],[0,1,0,0,0,0,1],[1,0,1,0,0,0,0,0,0,1]] rfl [a,(Int.toNat ((-(1:Int))+((a:Nat):Int))),(a-1)] [] q1 q0 h0)) (fun q0=>ah (.d (.d (.Le n0 (.a (.s n0 n1) (.c B))) (.Lt (.a (.s n0 n1) (.c B)) (.c B))) (.eq C D)) [(.d (.lt B n1) (.eq D n0)),(.lt n0 B)] [[1,0,0,0,1],[1],[0,1,0,0,1],[0,1,0,0,1]] rfl [a,(Int.toNat ((-(1:Int))+((a:Nat):Int))),(a-1)] [] q0 h0)
theorem YX:a<=100000->¬(a>16777216):=ah (.no (.lt eg B)) [(.le B aJ)] [[1,1]] rfl [a] []
theorem YY:a<=100000->¬((a:Int)=2 ^ 63-1):=ah (.no (.Eq (.c B) (.s bw n1))) [(.le B aJ)] [[0,1,1]] rfl [a] []
theorem YZ:a<=100000->Int.toNat (a:Int)<=100000:=fun h0=>(spT ((a:Nat):Int)).elim (fun q0=>ah (.le C aJ) [(.Eq (.c C) (.c B)),(.le B aJ)] [[1,1,0,1]] rfl [a,(Int.toNat ((a:Nat):Int))] [] q0 h0) (fun q0=>ah (.le C aJ) [(.d (.Lt (.c B) n0) (.eq C n0)),(.le B aJ)] [[0,1,0,0,0,1]] rfl [a,(Int.toNat ((a:Nat):Int))] [] q0 h0)
theorem Y0:(a:Int)>0->Int.toNat (a:Int)=a:=fun h0=>(spT ((a:Nat):Int)).elim (fun q0=>ah (.eq C B) [(.Eq (.c C) (.c B)),(.Lt n0 (.c B))] [[1,0,1],[1,1]] rfl [a,(Int.toNat ((a:Nat):Int))] [] q0 h0) (fun q0=>ah (.eq C B) [(.d (.Lt (.c B) n0) (.eq C n0)),(.Lt n0 (.c B))] [[0,1,0,0,1],[0,1,0,0,1]] rfl [a,(Int.toNat ((a:Nat):Int))] [] q0 h0)
theorem Y1:¬((a:Int)>0)->a=0:=ah (.eq B n0) [(.no (.Lt n0 (.c B)))] [[1,0,1],[1,1]] rfl [a] []
theorem Y2:c=a+2->d=c->b=d->a+1<b:=ah (.lt (.a B n1) C) [(.eq D (.a B n2)),(.eq E D),(.eq C E)] [[1,0,1,0,1,0,1]] rfl [a,b,c,d] []
theorem Y3:c=a+2->d=c->b=d->a<b+1:=ah (.lt B (.a C n1)) [(.eq D (.a B n2)),(.eq E D),(.eq C E)] [[1,0,1,0,1,0,1]] rfl [a,b,c,d] []
theorem Y4:c=a+2->d=c->e=d->b=e+1->a<b:=ah (.lt B C) [(.eq D (.a B n2)),(.eq E D),(.eq F E),(.eq C (.a F n1))] [[1,0,1,0,1,0,1,0,1]] rfl [a,b,c,d,e] []
theorem Y5:c=a+2->d=c->e=d->i=e+1->b=i->a<=b:=ah (.le B C) [(.eq D (.a B n2)),(.eq E D),(.eq F E),(.eq G (.a F n1)),(.eq C G)] [[1,0,1,0,1,0,1,0,1,0,1]] rfl [a,b,c,d,e,i] []
theorem Y6:c=a+2->d=c->e=d->i=e+1->b=i->a+1<b/\a+2<b:=ah (.d (.lt (.a B n1) C) (.lt (.a B n2) C)) [(.eq D (.a B n2)),(.eq E D),(.eq F E),(.eq G (.a F n1)),(.eq C G)] [[1,0,1,0,1,0,1,0,1,0,1],[1,0,1,0,1,0,1,0,1,0,1]] rfl [a,b,c,d,e,i] []
theorem Y7:c=d+2->e=c->b=e->a<d->a<b:=ah (.lt B C) [(.eq D (.a E n2)),(.eq F D),(.eq C F),(.lt B E)] [[1,0,1,0,1,0,1,1]] rfl [a,b,c,d,e] []
theorem Y8:b<=77*c->c<=10->a<=50->4+(1+(1+a+(8+(4+(1+b)))))<=900:=ah (.le (.a n4 (.a n1 (.a (.a n1 B) (.a n8 (.a n4 (.a n1 C)))))) (.n 900)) [(.le C (.m 77 D)),(.le D dY),(.le B (.n 50))] [[1,1,77,1]] rfl [a,b,c] []
theorem Y9:a<=900->a<=1000:=ah (.le B gJ) [(.le B (.n 900))] [[1,1]] rfl [a] []
theorem Y_:0+4+1+1+a=0+4+1+(1+a):=ah (.eq (.a (.a (.a (.a n0 n4) n1) n1) B) (.a (.a (.a n0 n4) n1) (.a n1 B))) [] [[1],[1]] rfl [a] []
theorem Za:0<=u/\u<2 ^ 60->0<=u:=ah (.Le n0 B) [(.d (.Le n0 B) (.Lt B bU))] [[1,1]] rfl [] [u]
theorem Zb:0<=u/\u<2 ^ 60->u<256 ^ 8:=ah (.Lt B (.n 18446744073709551616)) [(.d (.Le n0 B) (.Lt B bU))] [[1,0,1]] rfl [] [u]
theorem Zc:0<=u/\u<2 ^ 60->u<2 ^ 60:=ah (.Lt B bU) [(.d (.Le n0 B) (.Lt B bU))] [[1,0,1]] rfl [] [u]
theorem Zd:a+1<c->c<=b->a<=b:=ah (.le B C) [(.lt (.a B n1) D),(.le D C)] [[1,1,1]] rfl [a,b,c] []
theorem Ze:a+1<c->c<=b->a<=b+1:=ah (.le B (.a C n1)) [(.lt (.a B n1) D),(.le D C)] [[1,1,1]] rfl [a,b,c] []
theorem Zf:a+1<c->c<=b->a<=b+1+2:=ah (.le B (.a (.a C n1) n2)) [(.lt (.a B n1) D),(.le D C)] [[1,1,1]] rfl [a,b,c] []
theorem Zg:c+1<d->d<=b->a<c->a<b:=ah (.lt B C) [(.lt (.a D n1) E),(.le E C),(.lt B D)] [[1,1,1,1]] rfl [a,b,c,d] []
theorem Zh:c+1<b->a<c->a<b:=ah (.lt B C) [(.lt (.a D n1) C),(.lt B D)] [[1,1,1]] rfl [a,b,c] []
theorem Zi:(a:Int)+((b:Int)*256+((c:Int)*65536+(d:Int)*16777216))=(a:Int)+(b:Int)*256+(c:Int)*65536+(d:Int)*16777216:=ah (.Eq (.a (.c B) (.a (.r (.c C) 256) (.a (.r (.c D) 65536) (.r (.c E) 16777216)))) (.a (.a (.a (.c B) (.r (.c C) 256)) (.r (.c D) 65536)) (.r (.c E) 16777216))) [] [[1],[1]] rfl [a,b,c,d] []
theorem Zj:a<2 ^ 8->b<2 ^ 8->c<2 ^ 8->d<2 ^ 8->0<=(a:Int)+(b:Int)*256+(c:Int)*65536+(d:Int)*16777216/\(a:Int)+(b:Int)*256+(c:Int)*65536+(d:Int)*16777216<2 ^ 32:=ah (.d (.Le n0 (.a (.a (.a (.c B) (.r (.c C) 256)) (.r (.c D) 65536)) (.r (.c E) 16777216))) (.Lt (.a (.a (.a (.c B) (.r (.c C) 256)) (.r (.c D) 65536)) (.r (.c E) 16777216)) c6)) [(.lt B iB),(.lt C iB),(.lt D iB),(.lt E iB)] [[1,0,0,0,0,1,256,65536,16777216],[1,1,256,65536,16777216]] rfl [a,b,c,d] []
theorem Zk:a=160->min 4 (a-8)=4:=fun h0=>(spS a 8).elim (fun q0=>(i8 4 (a-8)).elim (fun q1=>ah (.eq C n4) [(.d (.le n4 D) (.eq C n4)),(.eq (.a D n8) B),(.eq B cM)] [[1,0,0,1],[1,0,1]] rfl [a,(min 4 (a-8)),(a-8)] [] q1 q0 h0) (fun q1=>ah (.eq C n4) [(.d (.lt D n4) (.eq C D)),(.eq (.a D n8) B),(.eq B cM)] [[0,1,0,0,0,1,0,1],[1,1,1]] rfl [a,(min 4 (a-8)),(a-8)] [] q1 q0 h0)) (fun q0=>ah (.eq C n4) [(.d (.lt B n8) (.eq D n0)),(.eq B cM)] [[0,1,0,0,0,1],[0,1,0,0,0,1]] rfl [a,(min 4 (a-8)),(a-8)] [] q0 h0)
theorem Zl:u<2 ^ 32->u<2 ^ 62:=ah (.Lt B aZ) [(.Lt B c6)] [[1,1]] rfl [] [u]
theorem Zm:8<=12+a:=ah (.le n8 (.a fN B)) [] [[1,1]] rfl [a] []
theorem Zn:12+a-8=4+a:=(spS (12+a) 8).elim (fun q0=>ah (.eq C (.a n4 B)) [(.eq (.a C n8) (.a fN B))] [[1,0,1],[1,1]] rfl [a,((12+a)-8)] [] q0) (fun q0=>ah (.eq C (.a n4 B)) [(.d (.lt (.a fN B) n8) (.eq C n0))] [[0,1,0,0,1],[0,1,0,0,1]] rfl [a,((12+a)-8)] [] q0)
theorem Zo:12<=12+a:=ah (.le fN (.a fN B)) [] [[1,1]] rfl [a] []
theorem Zp:12+a-12=a:=(spS (12+a) 12).elim (fun q0=>ah (.eq C B) [(.eq (.a C fN) (.a fN B))] [[1,0,1],[1,1]] rfl [a,((12+a)-12)] [] q0) (fun q0=>ah (.eq C B) [(.d (.lt (.a fN B) fN) (.eq C n0))] [[0,1,0,0,1],[0,1,0,0,1]] rfl [a,((12+a)-12)] [] q0)
theorem Zq:12+a<=160->min (4+a) b<=1000:=fun h0=>(i8 (4+a) b).elim (fun q0=>ah (.le D gJ) [(.d (.le (.a n4 B) C) (.eq D (.a n4 B))),(.le (.a fN B) cM)] [[1,0,1,0,1]] rfl [a,b,(min (4+a) b)] [] q0 h0) (fun q0=>ah (.le D gJ) [(.d (.lt C (.a n4 B)) (.eq D C)),(.le (.a fN B) cM)] [[1,1,1,0,1]] rfl [a,b,(min (4+a) b)] [] q0 h0)
theorem Zr:a=384->b<=14->min (10*16) (a-b*16)=160:=fun h0 h1=>(spS a (b*16)).elim (fun q0=>(i8 (10*16) (a-(b*16))).elim (fun q1=>ah (.eq D cM) [(.d (.le (.m 10 mr) E) (.eq D (.m 10 mr))),(.eq (.a E (.r C 16)) B),(.eq B gd),(.le C (.n 14))] [[1,0,0,1],[1,0,1]] rfl [a,b,(min (10*16) (a-(b*16))),(a-(b*16))] [] q1 q0 h0 h1) (fun q1=>ah (.eq D cM) [(.d (.lt E (.m 10 mr)) (.eq D E)),(.eq (.a E (.r C 16)) B),(.eq B gd),(.le C (.n 14))] [[0,1,0,0,0,1,0,1,16],[1,1,1]] rfl [a,b,(min (10*16) (a-(b*16))),(a-(b*16))] [] q1 q0 h0 h1)) (fun q0=>ah (.eq D cM) [(.d (.lt B (.r C 16)) (.eq E n0)),(.eq B gd),(.le C (.n 14))] [[0,1,0,0,0,1,16],[0,1,0,0,0,1,16]] rfl [a,b,(min (10*16) (a-(b*16))),(a-(b*16))] [] q0 h0 h1)
theorem Zs:c<=a->b+1<c/\d<c/\e<c->a≠b+1:=ah (.no (.eq B (.a C n1))) [(.le D B),(.d (.lt (.a C n1) D) (.d (.lt E D) (.lt F D)))] [[1,0,1,1]] rfl [a,b,c,d,e] []
theorem Zt:b=a+3->a<b:=ah (.lt B C) [(.eq C (.a B n3))] [[1,0,1]] rfl [a,b] []
theorem Zu:b=a+2->a<=b+1:=ah (.le B (.a C n1)) [(.eq C (.a B n2))] [[1,0,1]] rfl [a,b] []
theorem Zv:b=a+2->a+1<b+1/\a+2<b+1:=ah (.d (.lt (.a B n1) (.a C n1)) (.lt (.a B n2) (.a C n1))) [(.eq C (.a B n2))] [[1,0,1],[1,0,1]] rfl [a,b] []
theorem Zw:0<b/\b<=8->c-a=b+d->a+b<=c:=fun h0 h1=>(spS c a).elim (fun q0=>ah (.le (.a B C) D) [(.eq (.a F B) D),(.d (.lt n0 C) (.le C n8)),(.eq F (.a C E))] [[1,1,0,0,0,0,1,0,0,0,1]] rfl [a,b,c,d,(c-a)] [] q0 h0 h1) (fun q0=>ah (.le (.a B C) D) [(.d (.lt D B) (.eq F n0)),(.d (.lt n0 C) (.le C n8)),(.eq F (.a C E))] [[0,0,1,0,1,0,0,1,0,0,0,1]] rfl [a,b,c,d,(c-a)] [] q0 h0 h1)
theorem Zx:u<2 ^ 60->u<2 ^ 62:=ah (.Lt B aZ) [(.Lt B bU)] [[1,1]] rfl [] [u]
theorem Zy:a<3->(a:Int)<2 ^ 60:=ah (.Lt (.c B) bU) [(.lt B n3)] [[1,1]] rfl [a] []
theorem Zz:a<256->(a:Int)<2 ^ 60:=ah (.Lt (.c B) bU) [(.lt B iB)] [[1,1]] rfl [a] []
theorem ZA:b=a->a+1+4+1+1=b+7+7*0:=ah (.eq (.a (.a (.a (.a B n1) n4) n1) n1) (.a (.a C n7) (.m 7 n0))) [(.eq C B)] [[1,1],[1,0,1]] rfl [a,b] []
theorem ZC:a=b+7+7*c->a+7=b+7+7*(c+1):=ah (.eq (.a B n7) (.a (.a C n7) (.m 7 (.a D n1)))) [(.eq B (.a (.a C n7) (.m 7 D)))] [[1,0,1],[1,1]] rfl [a,b,c] []
theorem ZD:d=a->c=d+7+7*b->a+(7+7*b)=c:=ah (.eq (.a B (.a n7 (.m 7 C))) D) [(.eq E B),(.eq D (.a (.a E n7) (.m 7 C)))] [[1,1,0,1],[1,0,1,0,1]] rfl [a,b,c,d] []
theorem ZE:a<=b->a<=b+1+2:=ah (.le B (.a (.a C n1) n2)) [(.le B C)] [[1,1]] rfl [a,b] []
theorem ZF:a<=100000->(a:Int)<2 ^ 60:=ah (.Lt (.c B) bU) [(.le B aJ)] [[1,1]] rfl [a] []
theorem ZG:(a:Int)<256->a<256:=ah (.lt B iB) [(.Lt (.c B) iB)] [[1,1]] rfl [a] []
theorem ZH:c=b->a<=c->c<=a->a=b:=ah (.eq B C) [(.eq D C),(.le B D),(.le D B)] [[1,0,1,0,1],[1,1,0,1]] rfl [a,b,c] []
theorem ZI:c=b+1->a<=c->c<=a+1->a=b\/a=b+1:=by lia
theorem ZJ:b=c+1->a=c->a+1-b=0:=fun h0 h1=>(spS (a+1) b).elim (fun q0=>ah (.eq E n0) [(.eq (.a E C) (.a B n1)),(.eq C (.a D n1)),(.eq B D)] [[1,0,0,0,0,0,0,0,0,0,1],[1,1,0,0,1,1]] rfl [a,b,c,((a+1)-b)] [] q0 h0 h1) (fun q0=>ah (.eq E n0) [(.d (.lt (.a B n1) C) (.eq E n0)),(.eq C (.a D n1)),(.eq B D)] [[0,1,0,0,1,0,0,1],[0,1,0,0,1,0,0,1]] rfl [a,b,c,((a+1)-b)] [] q0 h0 h1)
theorem ZK:b=c+1->a=c+1->a+1-b=1:=fun h0 h1=>(spS (a+1) b).elim (fun q0=>ah (.eq E n1) [(.eq (.a E C) (.a B n1)),(.eq C (.a D n1)),(.eq B (.a D n1))] [[1,0,1,1,0,0,1],[1,1,0,0,1,1]] rfl [a,b,c,((a+1)-b)] [] q0 h0 h1) (fun q0=>ah (.eq E n1) [(.d (.lt (.a B n1) C) (.eq E n0)),(.eq C (.a D n1)),(.eq B (.a D n1))] [[0,1,0,0,1,0,0,1],[0,1,0,0,1,0,0,1]] rfl [a,b,c,((a+1)-b)] [] q0 h0 h1)
theorem ZL:a+40<b->a+1<b:=ah (.lt (.a B n1) C) [(.lt (.a B (.n 40)) C)] [[1,1]] rfl [a,b] []
theorem ZM:b<=100->a<=4000->a+1+b<=100000:=ah (.le (.a (.a B n1) C) aJ) [(.le C eB),(.le B (.n 4000))] [[1,1,1]] rfl [a,b] []
theorem ZN:a<=3000->a<=4999:=ah (.le B (.n 4999)) [(.le B (.n 3000))] [[1,1]] rfl [a] []
theorem ZO:a<=3000->a<=4995:=ah (.le B (.n 4995)) [(.le B (.n 3000))] [[1,1]] rfl [a] []
theorem ZP:a<=3000->a<=4994:=ah (.le B (.n 4994)) [(.le B (.n 3000))] [[1,1]] rfl [a] []
theorem ZQ:c<=3000->a=c+7->b<=10->a+7*b<=4000:=ah (.le (.a B (.m 7 C)) (.n 4000)) [(.le D (.n 3000)),(.eq B (.a D n7)),(.le C dY)] [[1,1,1,0,7]] rfl [a,b,c] []
theorem ZR:a<=10->7+7*a<=77:=ah (.le (.a n7 (.m 7 B)) (.n 77)) [(.le B dY)] [[1,7]] rfl [a] []
theorem ZS:b<=c->a<=d->a+b<=c+d:=ah (.le (.a B C) (.a D E)) [(.le C D),(.le B E)] [[1,1,1]] rfl [a,b,c,d] []
theorem ZT:u<2 ^ 60->u<256 ^ 8:=ah (.Lt B (.n 18446744073709551616)) [(.Lt B bU)] [[1,1]] rfl [] [u]
theorem ZU:a<=50->4+(1+(1+a))<=5000:=ah (.le (.a n4 (.a n1 (.a n1 B))) (.n 5000)) [(.le B (.n 50))] [[1,1]] rfl [a] []
theorem ZV:a<=50->4+(1+(1+(a+8)))<=5000:=ah (.le (.a n4 (.a n1 (.a n1 (.a B n8)))) (.n 5000)) [(.le B (.n 50))] [[1,1]] rfl [a] []
theorem ZW:a<=50->4+(1+(1+(a+12)))<=5000:=ah (.le (.a n4 (.a n1 (.a n1 (.a B fN)))) (.n 5000)) [(.le B (.n 50))] [[1,1]] rfl [a] []
theorem ZX:a<=50->4+(1+(1+(a+13)))<=200:=ah (.le (.a n4 (.a n1 (.a n1 (.a B (.n 13))))) (.n 200)) [(.le B (.n 50))] [[1,1]] rfl [a] []
theorem ZY:a<=200->b<=77*c->c<=10->a+b<=3000:=ah (.le (.a B C) (.n 3000)) [(.le B (.n 200)),(.le C (.m 77 D)),(.le D dY)] [[1,1,1,77]] rfl [a,b,c] []
theorem ZZ:c<=10->a<=200->b<=77*c->a+b<=100000:=ah (.le (.a B C) aJ) [(.le D dY),(.le B (.n 200)),(.le C (.m 77 D))] [[1,77,1,1]] rfl [a,b,c] []
theorem Z0:c+1<d/\c+2<d->a<c->d<=b->a<b:=ah (.lt B C) [(.d (.lt (.a D n1) E) (.lt (.a D n2) E)),(.lt B D),(.le E C)] [[1,1,0,1,1]] rfl [a,b,c,d] []
theorem Z1:c+1<b/\c+2<b->a<c->a<b:=ah (.lt B C) [(.d (.lt (.a D n1) C) (.lt (.a D n2) C)),(.lt B D)] [[1,1,0,1]] rfl [a,b,c] []
theorem Z2:a<=100000->¬((a:Int)>2 ^ 63-34):=ah (.no (.Lt (.s bw (.n 34)) (.c B))) [(.le B aJ)] [[1,1]] rfl [a] []
theorem Z3:a<=100000->Int.toNat (a:Int)<=16777216:=fun h0=>(spT ((a:Nat):Int)).elim (fun q0=>ah (.le C eg) [(.Eq (.c C) (.c B)),(.le B aJ)] [[1,1,0,1]] rfl [a,(Int.toNat ((a:Nat):Int))] [] q0 h0) (fun q0=>ah (.le C eg) [(.d (.Lt (.c B) n0) (.eq C n0)),(.le B aJ)] [[0,1,0,0,0,1]] rfl [a,(Int.toNat ((a:Nat):Int))] [] q0 h0)
theorem Z4:Int.toNat (a:Int)=a:=(spT ((a:Nat):Int)).elim (fun q0=>ah (.eq C B) [(.Eq (.c C) (.c B))] [[1,0,1],[1,1]] rfl [a,(Int.toNat ((a:Nat):Int))] [] q0) (fun q0=>ah (.eq C B) [(.d (.Lt (.c B) n0) (.eq C n0))] [[0,1,0,0,1],[0,1,0,0,1]] rfl [a,(Int.toNat ((a:Nat):Int))] [] q0)
theorem Z5:a<=b+1->a+1<=b+1+1:=ah (.le (.a B n1) (.a (.a C n1) n1)) [(.le B (.a C n1))] [[1,1]] rfl [a,b] []
theorem Z6:b<=100->a<=b+1->a<=1000:=ah (.le B gJ) [(.le C eB),(.le B (.a C n1))] [[1,1,1]] rfl [a,b] []
theorem Z7:a<=1000->a<=16777216+1:=ah (.le B (.a eg n1)) [(.le B gJ)] [[1,1]] rfl [a] []
theorem Z8:c+a<=b->¬((a:Int)>(b:Int)-(c:Int)):=ah (.no (.Lt (.s (.c C) (.c D)) (.c B))) [(.le (.a D B) C)] [[1,1]] rfl [a,b,c] []
theorem Z9:a<=a+b:=ah (.le B (.a B C)) [] [[1,0,1]] rfl [a,b] []
theorem Z_:a+b-a=b:=(spS (a+b) a).elim (fun q0=>ah (.eq D C) [(.eq (.a D B) (.a B C))] [[1,0,1],[1,1]] rfl [a,b,((a+b)-a)] [] q0) (fun q0=>ah (.eq D C) [(.d (.lt (.a B C) B) (.eq D n0))] [[0,1,0,0,0,1],[0,1,0,0,0,1]] rfl [a,b,((a+b)-a)] [] q0)
theorem aab:u<=x->v<=w->u+v<=w+x:=ah (.Le (.a B C) (.a D E)) [(.Le B E),(.Le C D)] [[1,1,1]] rfl [] [u,v,w,x]
theorem aad:0<=(a:Int)+1:=ah (.Le n0 (.a (.c B) n1)) [] [[1,1]] rfl [a] []
theorem aae:b<=1000->a<b->(a:Int)+1<=1000:=ah (.Le (.a (.c B) n1) gJ) [(.le C gJ),(.lt B C)] [[1,1,1]] rfl [a,b] []
theorem aag:a<256->(a:Int)<=255:=ah (.Le (.c B) Ew) [(.lt B iB)] [[1,1]] rfl [a] []
theorem aah:4+4<=100000:=ah (.le (.a n4 n4) aJ) [] [[1]] rfl [] []
theorem aai:b<=a->a<=1000->0<=(a:Int)-(b:Int)/\(a:Int)-(b:Int)<=100000:=ah (.d (.Le n0 (.s (.c B) (.c C))) (.Le (.s (.c B) (.c C)) aJ)) [(.le C B),(.le B gJ)] [[1,1],[1,0,1,0,1]] rfl [a,b] []
theorem aaj:a<=b->b<=1000->a+Int.toNat ((b:Int)-(a:Int))<=100000:=fun h0 h1=>(spT (((b:Nat):Int)-((a:Nat):Int))).elim (fun q0=>ah (.le (.a B D) aJ) [(.Eq (.c D) (.s (.c C) (.c B))),(.le B C),(.le C gJ)] [[1,1,0,0,1]] rfl [a,b,(Int.toNat (((b:Nat):Int)-((a:Nat):Int)))] [] q0 h0 h1) (fun q0=>ah (.le (.a B D) aJ) [(.d (.Lt (.s (.c C) (.c B)) n0) (.eq D n0)),(.le B C),(.le C gJ)] [[0,1,0,0,1]] rfl [a,b,(Int.toNat (((b:Nat):Int)-((a:Nat):Int)))] [] q0 h0 h1)
theorem aak:b<=a->Int.toNat ((a:Int)-(b:Int))=a-b:=fun h0=>(spS a b).elim (fun q0=>(spT (((a:Nat):Int)-((b:Nat):Int))).elim (fun q1=>ah (.eq D E) [(.Eq (.c D) (.s (.c B) (.c C))),(.eq (.a E C) B),(.le C B)] [[1,0,1,1],[1,1,0,0,1]] rfl [a,b,(Int.toNat (((a:Nat):Int)-((b:Nat):Int))),(a-b)] [] q1 q0 h0) (fun q1=>ah (.eq D E) [(.d (.Lt (.s (.c B) (.c C)) n0) (.eq D n0)),(.eq (.a E C) B),(.le C B)] [[0,1,0,0,0,0,1],[1,0,1,0,0,0,0,0,0,0,1]] rfl [a,b,(Int.toNat (((a:Nat):Int)-((b:Nat):Int))),(a-b)] [] q1 q0 h0)) (fun q0=>ah (.eq D E) [(.d (.lt B C) (.eq E n0)),(.le C B)] [[0,1,0,0,1],[0,1,0,0,1]] rfl [a,b,(Int.toNat (((a:Nat):Int)-((b:Nat):Int))),(a-b)] [] q0 h0)
theorem aal:a<=148->8+(4+a)+(160-(12+a))=160:=fun h0=>(spS 160 (12+a)).elim (fun q0=>ah (.eq (.a (.a n8 (.a n4 B)) C) cM) [(.eq (.a C (.a fN B)) cM),(.le B fV)] [[1,0,1],[1,1]] rfl [a,(160-(12+a))] [] q0 h0) (fun q0=>ah (.eq (.a (.a n8 (.a n4 B)) C) cM) [(.d (.lt cM (.a fN B)) (.eq C n0)),(.le B fV)] [[0,1,0,0,1],[0,1,0,0,1]] rfl [a,(160-(12+a))] [] q0 h0)
theorem aam:a<=148->4+a<=100000:=ah (.le (.a n4 B) aJ) [(.le B fV)] [[1,1]] rfl [a] []
theorem aan:a<=148->8+(4+a)<=100000:=ah (.le (.a n8 (.a n4 B)) aJ) [(.le B fV)] [[1,1]] rfl [a] []
theorem aao:a<=148->8+(4+a)<=160:=ah (.le (.a n8 (.a n4 B)) cM) [(.le B fV)] [[1,1]] rfl [a] []
theorem aap:8+(4+a)=12+a:=ah (.eq (.a n8 (.a n4 B)) (.a fN B)) [] [[1],[1]] rfl [a] []
theorem aaq:1+(a+b)=1+a+b:=ah (.eq (.a n1 (.a B C)) (.a (.a n1 B) C)) [] [[1],[1]] rfl [a,b] []
theorem aar:0=1+(c+d)->a<=b:=ah (.le B C) [(.eq n0 (.a n1 (.a D E)))] [[0,0,1,0,0,1,1]] rfl [a,b,c,d] []
theorem aas:b-a=1+c+d->a<=b->a+1<=b:=fun h0 h1=>(spS b a).elim (fun q0=>ah (.le (.a B n1) C) [(.eq (.a F B) C),(.eq F (.a (.a n1 D) E)),(.le B C)] [[1,1,0,0,1,0,0,0,1,1]] rfl [a,b,c,d,(b-a)] [] q0 h0 h1) (fun q0=>ah (.le (.a B n1) C) [(.d (.lt C B) (.eq F n0)),(.eq F (.a (.a n1 D) E)),(.le B C)] [[0,1,0,0,0,0,1]] rfl [a,b,c,d,(b-a)] [] q0 h0 h1)
theorem aat:a<=100->(a:Int)<2 ^ 62:=ah (.Lt (.c B) aZ) [(.le B eB)] [[1,1]] rfl [a] []
theorem aau:c-a=1+b+d->a<=c->a+1+b<=c:=fun h0 h1=>(spS c a).elim (fun q0=>ah (.le (.a (.a B n1) C) D) [(.eq (.a F B) D),(.eq F (.a (.a n1 C) E)),(.le B D)] [[1,1,0,0,1,0,0,0,0,1]] rfl [a,b,c,d,(c-a)] [] q0 h0 h1) (fun q0=>ah (.le (.a (.a B n1) C) D) [(.d (.lt D B) (.eq F n0)),(.eq F (.a (.a n1 C) E)),(.le B D)] [[0,1,0,0,0,0,1]] rfl [a,b,c,d,(c-a)] [] q0 h0 h1)
theorem aav:b=a->a<=b:=ah (.le B C) [(.eq C B)] [[1,0,1]] rfl [a,b] []
theorem aaw:a*16<=(a+b)*16:=ah (.le (.r B 16) (.r (.a B C) 16)) [] [[1,0,16]] rfl [a,b] []
theorem aax:(a+b)*16-a*16=b*16:=(spS ((a+b)*16) (a*16)).elim (fun q0=>ah (.eq D (.r C 16)) [(.eq (.a D (.r B 16)) (.r (.a B C) 16))] [[1,0,1],[1,1]] rfl [a,b,(((a+b)*16)-(a*16))] [] q0) (fun q0=>ah (.eq D (.r C 16)) [(.d (.lt (.r (.a B C) 16) (.r B 16)) (.eq D n0))] [[0,1,0,0,0,16],[0,1,0,0,0,16]] rfl [a,b,(((a+b)*16)-(a*16))] [] q0)
theorem aay:a+b<=24->0<=(a:Int)/\0<=(b:Int)/\(a:Int)+(b:Int)<=24:=ah (.d (.Le n0 (.c B)) (.d (.Le n0 (.c C)) (.Le (.a (.c B) (.c C)) rh))) [(.le (.a B C) rh)] [[1,0,1],[1,0,0,1],[1,1]] rfl [a,b] []
theorem aaz:c+a<=24->min (a*16) (b-c*16)<=100000:=fun h0=>(i8 (a*16) (b-(c*16))).elim (fun q0=>ah (.le E aJ) [(.d (.le (.r B 16) F) (.eq E (.r B 16))),(.le (.a D B) rh)] [[1,0,1,0,16,0,0,16]] rfl [a,b,c,(min (a*16) (b-(c*16))),(b-(c*16))] [] q0 h0) (fun q0=>ah (.le E aJ) [(.d (.lt F (.r B 16)) (.eq E F)),(.le (.a D B) rh)] [[1,1,1,0,16,0,0,16]] rfl [a,b,c,(min (a*16) (b-(c*16))),(b-(c*16))] [] q0 h0)
theorem aaA:c=a->c<=b->a<=b:=ah (.le B C) [(.eq D B),(.le D C)] [[1,0,1,1]] rfl [a,b,c] []
theorem aaB:a<=1000->b<10->a+b<=100000:=ah (.le (.a B C) aJ) [(.le B gJ),(.lt C dY)] [[1,1,1]] rfl [a,b] []
theorem aaC:b=384->a<24->c=16->min (a*16) b+c+(b-(a+1)*16)=384:=fun h0 h1 h2=>(i8 (a*16) b).elim (fun q0=>(spS b ((a+1)*16)).elim (fun q1=>ah (.eq (.a (.a E D) F) gd) [(.eq (.a F (.r (.a B n1) 16)) C),(.d (.le (.r B 16) C) (.eq E (.r B 16))),(.eq C gd),(.lt B rh),(.eq D mr)] [[1,0,1,0,0,1,0,1,0,0,1],[1,1,0,0,1,0,1,0,0,1]] rfl [a,b,c,(min (a*16) b),(b-((a+1)*16))] [] q1 q0 h0 h1 h2) (fun q1=>ah (.eq (.a (.a E D) F) gd) [(.d (.lt C (.r (.a B n1) 16)) (.eq F n0)),(.d (.le (.r B 16) C) (.eq E (.r B 16))),(.eq C gd),(.lt B rh),(.eq D mr)] [[0,1,0,0,0,0,0,0,1,16],[1,0,1,0,0,1,0,0,0,16,1]] rfl [a,b,c,(min (a*16) b),(b-((a+1)*16))] [] q1 q0 h0 h1 h2)) (fun q0=>ah (.eq (.a (.a E D) F) gd) [(.d (.lt C (.r B 16)) (.eq E C)),(.eq C gd),(.lt B rh),(.eq D mr)] [[0,1,0,0,0,1,16],[0,1,0,0,0,1,16]] rfl [a,b,c,(min (a*16) b),(b-((a+1)*16))] [] q0 h0 h1 h2)
theorem aaD:Int.toNat ((a:Int)*16)=a*16:=(spT (((a:Nat):Int)*(16:Int))).elim (fun q0=>ah (.eq C (.r B 16)) [(.Eq (.c C) (.r (.c B) 16))] [[1,0,1],[1,1]] rfl [a,(Int.toNat (((a:Nat):Int)*(16:Int)))] [] q0) (fun q0=>ah (.eq C (.r B 16)) [(.d (.Lt (.r (.c B) 16) n0) (.eq C n0))] [[0,1,0,0,16],[0,1,0,0,16]] rfl [a,(Int.toNat (((a:Nat):Int)*(16:Int)))] [] q0)
theorem aaE:Int.toNat (((a:Int)+1)*16)=(a+1)*16:=(spT ((((a:Nat):Int)+(1:Int))*(16:Int))).elim (fun q0=>ah (.eq C (.r (.a B n1) 16)) [(.Eq (.c C) (.r (.a (.c B) n1) 16))] [[1,0,1],[1,1]] rfl [a,(Int.toNat ((((a:Nat):Int)+(1:Int))*(16:Int)))] [] q0) (fun q0=>ah (.eq C (.r (.a B n1) 16)) [(.d (.Lt (.r (.a (.c B) n1) 16) n0) (.eq C n0))] [[0,1,0,0,16],[0,1,0,0,16]] rfl [a,(Int.toNat ((((a:Nat):Int)+(1:Int))*(16:Int)))] [] q0)
theorem aaF:0<=(a:Int)*16:=ah (.Le n0 (.r (.c B) 16)) [] [[1,16]] rfl [a] []
theorem aaG:(a:Int)*16<=((a:Int)+1)*16:=ah (.Le (.r (.c B) 16) (.r (.a (.c B) n1) 16)) [] [[1]] rfl [a] []
theorem aaH:b=384->a<24->((a:Int)+1)*16<=(b:Int):=ah (.Le (.r (.a (.c B) n1) 16) (.c C)) [(.eq C gd),(.lt B rh)] [[1,0,1,16]] rfl [a,b] []
theorem aaI:a=16->Int.toNat ((b:Int)*16)=b*16->Int.toNat (((b:Int)+1)*16)=(b+1)*16->a=Int.toNat (((b:Int)+1)*16)-Int.toNat ((b:Int)*16):=fun h0 h1 h2=>(spS (Int.toNat ((((b:Nat):Int)+(1:Int))*(16:Int))) (Int.toNat (((b:Nat):Int)*(16:Int)))).elim (fun q0=>ah (.eq B F) [(.eq (.a F D) E),(.eq B mr),(.eq D (.r C 16)),(.eq E (.r (.a C n1) 16))] [[1,1,0,0,1,0,1,1],[1,0,1,1,0,1,0,0,1]] rfl [a,b,(Int.toNat (((b:Nat):Int)*(16:Int))),(Int.toNat ((((b:Nat):Int)+(1:Int))*(16:Int))),((Int.toNat ((((b:Nat):Int)+(1:Int))*(16:Int)))-(Int.toNat (((b:Nat):Int)*(16:Int))))] [] q0 h0 h1 h2) (fun q0=>ah (.eq B F) [(.d (.lt E D) (.eq F n0)),(.eq B mr),(.eq D (.r C 16)),(.eq E (.r (.a C n1) 16))] [[0,1,0,0,0,0,1,0,0,1],[0,1,0,0,0,0,1,0,0,1]] rfl [a,b,(Int.toNat (((b:Nat):Int)*(16:Int))),(Int.toNat ((((b:Nat):Int)+(1:Int))*(16:Int))),((Int.toNat ((((b:Nat):Int)+(1:Int))*(16:Int)))-(Int.toNat (((b:Nat):Int)*(16:Int))))] [] q0 h0 h1 h2)
theorem aaJ:b+1≠a->b+1≠c->a≠c->a≠b+1:=fun h0 h1 h2=>(G_ h0).elim (fun q0=>ah (.no (.eq B (.a C n1))) [(.lt (.a C n1) B)] [[1,0,1]] rfl [a,b,c] [] q0) (fun q0=>ah (.no (.eq B (.a C n1))) [(.lt B (.a C n1))] [[0,1,1]] rfl [a,b,c] [] q0)
theorem aaK:b+1<a/\c<a/\d<a->a≠b+1:=ah (.no (.eq B (.a C n1))) [(.d (.lt (.a C n1) B) (.d (.lt D B) (.lt E B)))] [[1,0,1]] rfl [a,b,c,d] []
theorem aaL:a+1<b/\c<b/\d<b->a+1<b+1/\c<b+1/\b<b+1:=ah (.d (.lt (.a B n1) (.a C n1)) (.d (.lt D (.a C n1)) (.lt C (.a C n1)))) [(.d (.lt (.a B n1) C) (.d (.lt D C) (.lt E C)))] [[1,1],[1,0,1],[1]] rfl [a,b,c,d] []
theorem aaM:a+1<=10->a<=10:=ah (.le B dY) [(.le (.a B n1) dY)] [[1,1]] rfl [a] []
theorem aaN:b=384->a+10<=24->min (a*16) b=a*16:=fun h0 h1=>(i8 (a*16) b).elim (fun q0=>ah (.eq D (.r B 16)) [(.d (.le (.r B 16) C) (.eq D (.r B 16))),(.eq C gd),(.le (.a B dY) rh)] [[1,0,0,1],[1,0,1]] rfl [a,b,(min (a*16) b)] [] q0 h0 h1) (fun q0=>ah (.eq D (.r B 16)) [(.d (.lt C (.r B 16)) (.eq D C)),(.eq C gd),(.le (.a B dY) rh)] [[0,1,0,0,0,1,16],[1,1,1]] rfl [a,b,(min (a*16) b)] [] q0 h0 h1)
theorem aaO:b=160->a+1<=10->min (a*16) b=a*16:=fun h0 h1=>(i8 (a*16) b).elim (fun q0=>ah (.eq D (.r B 16)) [(.d (.le (.r B 16) C) (.eq D (.r B 16))),(.eq C cM),(.le (.a B n1) dY)] [[1,0,0,1],[1,0,1]] rfl [a,b,(min (a*16) b)] [] q0 h0 h1) (fun q0=>ah (.eq D (.r B 16)) [(.d (.lt C (.r B 16)) (.eq D C)),(.eq C cM),(.le (.a B n1) dY)] [[0,1,0,0,0,1,16],[1,1,1]] rfl [a,b,(min (a*16) b)] [] q0 h0 h1)
theorem aaP:a*16+b*16=(a+b)*16:=ah (.eq (.a (.r B 16) (.r C 16)) (.r (.a B C) 16)) [] [[1],[1]] rfl [a,b] []
theorem aaQ:(a+b+1)*16=a*16+b*16+16:=ah (.eq (.r (.a (.a B C) n1) 16) (.a (.a (.r B 16) (.r C 16)) mr)) [] [[1],[1]] rfl [a,b] []
theorem aaR:(a+b)*16+16=(a+(b+1))*16:=ah (.eq (.a (.r (.a B C) 16) mr) (.r (.a B (.a C n1)) 16)) [] [[1],[1]] rfl [a,b] []
theorem aaS:(a+1)*16=a*16+16:=ah (.eq (.r (.a B n1) 16) (.a (.r B 16) mr)) [] [[1],[1]] rfl [a] []
theorem aaT:a<24->0<=(a:Int)/\(0:Int)<=1/\(a:Int)+1<=24:=ah (.d (.Le n0 (.c B)) (.d (.Le n0 n1) (.Le (.a (.c B) n1) rh))) [(.lt B rh)] [[1,0,1],[1],[1,1]] rfl [a] []
theorem aaU:Int.toNat ((a:Int)*16+(b:Int))=a*16+b->0<=(a:Int)*16+(b:Int):=fun h0=>ah (.Le n0 (.a (.r (.c B) 16) (.c C))) [(.eq D (.a (.r B 16) C))] [[1,1,0,0,0,1]] rfl [a,b,(Int.toNat ((((a:Nat):Int)*(16:Int))+((b:Nat):Int)))] [] h0
theorem aaV:c=384->a<24->b<16->(a:Int)*16+(b:Int)<(c:Int):=ah (.Lt (.a (.r (.c B) 16) (.c C)) (.c D)) [(.eq D gd),(.lt B rh),(.lt C mr)] [[1,0,1,16,1]] rfl [a,b,c] []
theorem aaW:0<=u-> -(2 ^ 63)<=u:=ah (.Le (.s n0 bw) B) [(.Le n0 B)] [[1,1]] rfl [] [u]
theorem aaX:u<2 ^ 62->u<2 ^ 63:=ah (.Lt B bw) [(.Lt B aZ)] [[1,1]] rfl [] [u]
theorem aaY:0<=u->u<(a:Int)->Int.toNat u<a:=fun h0 h1=>(spT u).elim (fun q0=>ah (.lt C B) [(.Eq (.c C) B),(.Le n0 B),(.Lt B (.c B))] [[1,1,0,0,1]] rfl [a,(Int.toNat u)] [u] q0 h0 h1) (fun q0=>ah (.lt C B) [(.d (.Lt B n0) (.eq C n0)),(.Le n0 B),(.Lt B (.c B))] [[0,1,0,0,1]] rfl [a,(Int.toNat u)] [u] q0 h0 h1)
theorem aaZ:a<b->(a:Int)<(b:Int):=ah (.Lt (.c B) (.c C)) [(.lt B C)] [[1,1]] rfl [a,b] []
theorem aa0:a<=100->0<=(a:Int)/\(a:Int)<2 ^ 62:=ah (.d (.Le n0 (.c B)) (.Lt (.c B) aZ)) [(.le B eB)] [[1,0,1],[1,1]] rfl [a] []
theorem aa1:¬(a<b)->¬((a:Int)<(b:Int)):=ah (.no (.Lt (.c B) (.c C))) [(.no (.lt B C))] [[1,1]] rfl [a,b] []
theorem aa2:0<=u/\u<=100->u=((Int.toNat u:Nat):Int):=fun h0=>(spT u).elim (fun q0=>ah (.Eq B (.c B)) [(.Eq (.c B) B),(.d (.Le n0 B) (.Le B eB))] [[1,1],[1,0,1]] rfl [(Int.toNat u)] [u] q0 h0) (fun q0=>ah (.Eq B (.c B)) [(.d (.Lt B n0) (.eq B n0)),(.d (.Le n0 B) (.Le B eB))] [[0,1,0,0,1],[0,1,0,0,1]] rfl [(Int.toNat u)] [u] q0 h0)
theorem aa3:0<=(a:Int)/\(a:Int)<=100->a<=100:=ah (.le B eB) [(.d (.Le n0 (.c B)) (.Le (.c B) eB))] [[1,0,1]] rfl [a] []
theorem aa4:b<=100->a<b->0<=10+(a:Int)/\10+(a:Int)<2 ^ 32:=ah (.d (.Le n0 (.a dY (.c B))) (.Lt (.a dY (.c B)) c6)) [(.le C eB),(.lt B C)] [[1,0,0,1],[1,1,1]] rfl [a,b] []
theorem aa5:b<=5->a=b->a<=11:=ah (.le B (.n 11)) [(.le C n5),(.eq B C)] [[1,1,1]] rfl [a,b] []
theorem aa6:a=b->u=1/\1<b->2<=min 2 a:=fun h0 h1=>(i8 2 a).elim (fun q0=>ah (.le n2 D) [(.d (.le n2 B) (.eq D n2)),(.eq B C),(.d (.Eq B n1) (.lt n1 C))] [[1,0,0,1]] rfl [a,b,(min 2 a)] [u] q0 h0 h1) (fun q0=>ah (.le n2 D) [(.d (.lt B n2) (.eq D B)),(.eq B C),(.d (.Eq B n1) (.lt n1 C))] [[0,1,0,0,0,1,0,0,1]] rfl [a,b,(min 2 a)] [u] q0 h0 h1)
theorem aa7:min 2 a<=10:=(i8 2 a).elim (fun q0=>ah (.le C dY) [(.d (.le n2 B) (.eq C n2))] [[1,0,1]] rfl [a,(min 2 a)] [] q0) (fun q0=>ah (.le C dY) [(.d (.lt B n2) (.eq C B))] [[1,1,1]] rfl [a,(min 2 a)] [] q0)
theorem aa8:b<=5->a=b->a<=12:=ah (.le B fN) [(.le C n5),(.eq B C)] [[1,1,1]] rfl [a,b] []
theorem aa9:a=b->u=2/\2<b->2<=min 3 a:=fun h0 h1=>(i8 3 a).elim (fun q0=>ah (.le n2 D) [(.d (.le n3 B) (.eq D n3)),(.eq B C),(.d (.Eq B n2) (.lt n2 C))] [[1,0,0,1]] rfl [a,b,(min 3 a)] [u] q0 h0 h1) (fun q0=>ah (.le n2 D) [(.d (.lt B n3) (.eq D B)),(.eq B C),(.d (.Eq B n2) (.lt n2 C))] [[0,1,0,0,0,1,0,0,1]] rfl [a,b,(min 3 a)] [u] q0 h0 h1)
theorem aa_:min 3 a<=10:=(i8 3 a).elim (fun q0=>ah (.le C dY) [(.d (.le n3 B) (.eq C n3))] [[1,0,1]] rfl [a,(min 3 a)] [] q0) (fun q0=>ah (.le C dY) [(.d (.lt B n3) (.eq C B))] [[1,1,1]] rfl [a,(min 3 a)] [] q0)
theorem aba:b<=5->a=b->a<=10:=ah (.le B dY) [(.le C n5),(.eq B C)] [[1,1,1]] rfl [a,b] []
theorem abb:1<=a->a<=5->b=a->a=0->False:=by lia
theorem abc:a+1<c->b=c->a<b:=ah (.lt B C) [(.lt (.a B n1) D),(.eq C D)] [[1,1,0,1]] rfl [a,b,c] []
theorem abd:a+1<c->b=c->a+1<b:=ah (.lt (.a B n1) C) [(.lt (.a B n1) D),(.eq C D)] [[1,1,0,1]] rfl [a,b,c] []
theorem abe:a+1<c->b=c+1->a+1<b/\c<b:=ah (.d (.lt (.a B n1) C) (.lt D C)) [(.lt (.a B n1) D),(.eq C (.a D n1))] [[1,1,0,1],[1,0,0,1]] rfl [a,b,c] []
theorem abf:c<=b/\c<=d/\c<=e->a<c->a≠b+1:=ah (.no (.eq B (.a C n1))) [(.d (.le D C) (.d (.le D E) (.le D F))),(.lt B D)] [[0,1,1,0,0,1]] rfl [a,b,c,d,e] []
theorem abg:c<=d/\c<=b/\c<=e->a<c->a≠b:=ah (.no (.eq B C)) [(.d (.le D E) (.d (.le D C) (.le D F))),(.lt B D)] [[0,1,0,1,0,1]] rfl [a,b,c,d,e] []
theorem abh:c<=d/\c<=e/\c<=b->a<c->a≠b:=ah (.no (.eq B C)) [(.d (.le D E) (.d (.le D F) (.le D C))),(.lt B D)] [[0,1,0,0,1,1]] rfl [a,b,c,d,e] []
theorem abi:c<=b->a<=c->a<=b:=ah (.le B C) [(.le D C),(.le B D)] [[1,1,1]] rfl [a,b,c] []
theorem abj:b=384->a=160->a+(b-160)=384:=fun h0 h1=>(spS b 160).elim (fun q0=>ah (.eq (.a B D) gd) [(.eq (.a D cM) C),(.eq C gd),(.eq B cM)] [[1,0,1,0,1,0,1],[1,1,0,1,0,1]] rfl [a,b,(b-160)] [] q0 h0 h1) (fun q0=>ah (.eq (.a B D) gd) [(.d (.lt C cM) (.eq D n0)),(.eq C gd),(.eq B cM)] [[0,1,0,0,0,1],[1,0,1,0,0,0,1]] rfl [a,b,(b-160)] [] q0 h0 h1)
theorem abk:a+10<=24->b<10->a+b<24:=ah (.lt (.a B C) rh) [(.le (.a B dY) rh),(.lt C dY)] [[1,1,1]] rfl [a,b] []
theorem abl:a=160->b<10->min 16 (a-b*16)=16:=fun h0 h1=>(spS a (b*16)).elim (fun q0=>(i8 16 (a-(b*16))).elim (fun q1=>ah (.eq D mr) [(.d (.le mr E) (.eq D mr)),(.eq (.a E (.r C 16)) B),(.eq B cM),(.lt C dY)] [[1,0,0,1],[1,0,1]] rfl [a,b,(min 16 (a-(b*16))),(a-(b*16))] [] q1 q0 h0 h1) (fun q1=>ah (.eq D mr) [(.d (.lt E mr) (.eq D E)),(.eq (.a E (.r C 16)) B),(.eq B cM),(.lt C dY)] [[0,1,0,0,0,1,0,1,16],[1,1,1]] rfl [a,b,(min 16 (a-(b*16))),(a-(b*16))] [] q1 q0 h0 h1)) (fun q0=>ah (.eq D mr) [(.d (.lt B (.r C 16)) (.eq E n0)),(.eq B cM),(.lt C dY)] [[0,1,0,0,0,1,16],[0,1,0,0,0,1,16]] rfl [a,b,(min 16 (a-(b*16))),(a-(b*16))] [] q0 h0 h1)
theorem abm:4+a<=148->4+a<=148:=ah (.le (.a n4 B) fV) [(.le (.a n4 B) fV)] [[1,1]] rfl [a] []
theorem abn:a<c->c<=d->d<e->e<=b->a<b:=ah (.lt B C) [(.lt B D),(.le D E),(.lt E F),(.le F C)] [[1,1,1,1,1]] rfl [a,b,c,d,e] []
theorem abo:a<=c/\a<=d/\a<=e->c+1<i/\d<i/\e<i->i<=j->j<k->k<=l->m<=b->l<=m->a<=b:=ah (.le B C) [(.d (.le B D) (.d (.le B E) (.le B F))),(.d (.lt (.a D n1) G) (.d (.lt E G) (.lt F G))),(.le G H),(.lt H J),(.le J K),(.le L C),(.le K L)] [[1,1,0,0,1,0,0,1,1,1,1,1]] rfl [a,b,c,d,e,i,j,k,l,m] []
theorem abp:0<=u/\u<2 ^ 62->u<2 ^ 63:=ah (.Lt B bw) [(.d (.Le n0 B) (.Lt B aZ))] [[1,0,1]] rfl [] [u]
theorem abq: -1<=u/\u<2 ^ 62-> -(2 ^ 63)<=u:=ah (.Le (.s n0 bw) B) [(.d (.Le (.s n0 n1) B) (.Lt B aZ))] [[1,1]] rfl [] [u]
theorem abr: -1<=u/\u<2 ^ 62->u<2 ^ 63:=ah (.Lt B bw) [(.d (.Le (.s n0 n1) B) (.Lt B aZ))] [[1,0,1]] rfl [] [u]
theorem abt: -1<=u/\u<2 ^ 62->u<0->u= -1:=ah (.Eq B (.s n0 n1)) [(.d (.Le (.s n0 n1) B) (.Lt B aZ)),(.Lt B n0)] [[1,1],[1,0,0,1]] rfl [] [u]
theorem abu:a-1<a->0<a:=fun h0=>ah (.lt n0 B) [(.lt C B)] [[1,1,0,1]] rfl [a,(a-1)] [] h0
theorem abv:¬(u<0)->0<=u:=ah (.Le n0 B) [(.no (.Lt B n0))] [[1,1]] rfl [] [u]
theorem abw:Int.toNat u<a->¬(u<0)->u<(a:Int):=fun h0 h1=>(spT u).elim (fun q0=>ah (.Lt B (.c B)) [(.Eq (.c C) B),(.lt C B),(.no (.Lt B n0))] [[1,0,1,1]] rfl [a,(Int.toNat u)] [u] q0 h0 h1) (fun q0=>ah (.Lt B (.c B)) [(.d (.Lt B n0) (.eq C n0)),(.lt C B),(.no (.Lt B n0))] [[0,1,0,0,0,1]] rfl [a,(Int.toNat u)] [u] q0 h0 h1)
theorem abx:0<=u/\u<(a:Int)/\u<2 ^ 62->¬(u< -(2 ^ 63)):=ah (.no (.Lt B (.s n0 bw))) [(.d (.Le n0 B) (.d (.Lt B (.c B)) (.Lt B aZ)))] [[1,1]] rfl [a] [u]
theorem aby:0<=u/\u<(a:Int)/\u<2 ^ 62->¬(u>=2 ^ 63):=ah (.no (.Le bw B)) [(.d (.Le n0 B) (.d (.Lt B (.c B)) (.Lt B aZ)))] [[1,0,0,1]] rfl [a] [u]
theorem abz:0<=u/\u<(a:Int)/\u<2 ^ 62->Int.toNat u<a:=fun h0=>(spT u).elim (fun q0=>ah (.lt C B) [(.Eq (.c C) B),(.d (.Le n0 B) (.d (.Lt B (.c B)) (.Lt B aZ)))] [[1,1,0,0,1]] rfl [a,(Int.toNat u)] [u] q0 h0) (fun q0=>ah (.lt C B) [(.d (.Lt B n0) (.eq C n0)),(.d (.Le n0 B) (.d (.Lt B (.c B)) (.Lt B aZ)))] [[0,1,0,0,1]] rfl [a,(Int.toNat u)] [u] q0 h0)
theorem abA:0<=u->0<=(a:Int)+u:=ah (.Le n0 (.a (.c B) B)) [(.Le n0 B)] [[1,1,1]] rfl [a] [u]
theorem abB:u<=255*(b:Int)->a<2 ^ 8->(a:Int)+u<=255*((b:Int)+1):=ah (.Le (.a (.c B) B) (.m 255 (.a (.c C) n1))) [(.Le B (.m 255 (.c C))),(.lt B iB)] [[1,1,1]] rfl [a,b] [u]
theorem abC:(a:Int)+u+(b:Int)=(b:Int)+u+(a:Int):=ah (.Eq (.a (.a (.c B) B) (.c C)) (.a (.a (.c C) B) (.c B))) [] [[1],[1]] rfl [a,b] [u]
theorem abD:u+(b:Int)=v+(c:Int)->(a:Int)+u+(b:Int)=(a:Int)+v+(c:Int):=ah (.Eq (.a (.a (.c B) B) (.c C)) (.a (.a (.c B) C) (.c D))) [(.Eq (.a B (.c C)) (.a C (.c D)))] [[1,0,1],[1,1]] rfl [a,b,c] [u,v]
theorem abE:a<=1000->b<=1000->u≠v->0<=u->u<=255*(a:Int)->0<=v->v<=255*(b:Int)->(1+u) % 4294967296=(1+v) % 4294967296->False:=by lia
theorem abF:1<=a->a<4->a=1\/a=2\/a=3:=by lia
theorem abG:148<u->148<Int.toNat u:=fun h0=>(spT u).elim (fun q0=>ah (.lt fV B) [(.Eq (.c B) B),(.Lt fV B)] [[1,0,1,1]] rfl [(Int.toNat u)] [u] q0 h0) (fun q0=>ah (.lt fV B) [(.d (.Lt B n0) (.eq B n0)),(.Lt fV B)] [[0,1,0,0,1]] rfl [(Int.toNat u)] [u] q0 h0)
theorem abH:a<8->a<12+b:=ah (.lt B (.a fN C)) [(.lt B n8)] [[1,1,0,1]] rfl [a,b] []
theorem abI:a<12->a<12+b:=ah (.lt B (.a fN C)) [(.lt B fN)] [[1,1,0,1]] rfl [a,b] []
theorem abJ:148<a->148<(a:Int):=ah (.Lt fV (.c B)) [(.lt fV B)] [[1,1]] rfl [a] []
theorem abK:¬(148<a)->12+a<=160:=ah (.le (.a fN B) cM) [(.no (.lt fV B))] [[1,1]] rfl [a] []
theorem abL:b<=148->a<2 ^ 8->¬(148<a)->0+1+1+1+1+min a (b+(160-(12+b)))<=1000:=fun h0 h1 h2=>(i8 a (b+(160-(12+b)))).elim (fun q0=>ah (.le (.a (.a (.a (.a (.a n0 n1) n1) n1) n1) D) gJ) [(.d (.le B (.a C E)) (.eq D B)),(.le C fV),(.lt B iB),(.no (.lt fV B))] [[1,0,1,0,0,1]] rfl [a,b,(min a (b+(160-(12+b)))),(160-(12+b))] [] q0 h0 h1 h2) (fun q0=>ah (.le (.a (.a (.a (.a (.a n0 n1) n1) n1) n1) D) gJ) [(.d (.lt (.a C E) B) (.eq D (.a C E))),(.le C fV),(.lt B iB),(.no (.lt fV B))] [[1,1,1,0,0,1]] rfl [a,b,(min a (b+(160-(12+b)))),(160-(12+b))] [] q0 h0 h1 h2)
theorem abM:a<b->v=u+w->0<=w->(a:Int)+u≠(b:Int)+v:=ah (.no (.Eq (.a (.c B) B) (.a (.c C) C))) [(.lt B C),(.Eq C (.a B D)),(.Le n0 D)] [[0,1,1,0,1,1]] rfl [a,b] [u,v,w]
theorem abN:a≠b->(a:Int)+(u+0)≠(b:Int)+u:=fun h0=>(G_ h0).elim (fun q0=>ah (.no (.Eq (.a (.c B) (.a B n0)) (.a (.c C) B))) [(.lt B C)] [[0,1,1]] rfl [a,b] [u] q0) (fun q0=>ah (.no (.Eq (.a (.c B) (.a B n0)) (.a (.c C) B))) [(.lt C B)] [[1,0,1]] rfl [a,b] [u] q0)
theorem abO:a<160->¬(a<8)->a<12->¬(a=8)->a=9\/a=10\/a=11:=by lia
theorem abP:b≠0->¬(9=8)->148<(a:Int)+(b:Int)*256+((0:Nat):Int)*65536+((0:Nat):Int)*16777216:=fun h0 h1=>(G_ h0).elim (fun q0=>ah (.Lt fV (.a (.a (.a (.c B) (.r (.c C) 256)) (.r (.c n0) 65536)) (.r (.c n0) 16777216))) [(.lt C n0)] [[0,1,0,1]] rfl [a,b] [] q0) (fun q0=>ah (.Lt fV (.a (.a (.a (.c B) (.r (.c C) 256)) (.r (.c n0) 65536)) (.r (.c n0) 16777216))) [(.lt n0 C)] [[1,256,1]] rfl [a,b] [] q0)
theorem abQ:b≠0->¬(10=8)->148<(a:Int)+((0:Nat):Int)*256+(b:Int)*65536+((0:Nat):Int)*16777216:=fun h0 h1=>(G_ h0).elim (fun q0=>ah (.Lt fV (.a (.a (.a (.c B) (.r (.c n0) 256)) (.r (.c C) 65536)) (.r (.c n0) 16777216))) [(.lt C n0)] [[0,1,0,1]] rfl [a,b] [] q0) (fun q0=>ah (.Lt fV (.a (.a (.a (.c B) (.r (.c n0) 256)) (.r (.c C) 65536)) (.r (.c n0) 16777216))) [(.lt n0 C)] [[1,65536,1]] rfl [a,b] [] q0)
theorem abR:b≠0->¬(11=8)->148<(a:Int)+((0:Nat):Int)*256+((0:Nat):Int)*65536+(b:Int)*16777216:=fun h0 h1=>(G_ h0).elim (fun q0=>ah (.Lt fV (.a (.a (.a (.c B) (.r (.c n0) 256)) (.r (.c n0) 65536)) (.r (.c C) 16777216))) [(.lt C n0)] [[0,1,0,1]] rfl [a,b] [] q0) (fun q0=>ah (.Lt fV (.a (.a (.a (.c B) (.r (.c n0) 256)) (.r (.c n0) 65536)) (.r (.c C) 16777216))) [(.lt n0 C)] [[1,16777216,1]] rfl [a,b] [] q0)
theorem abS:v+(a:Int)=w+(b:Int)->b≠a->u+v≠u+w:=fun h0 h1=>(G_ h1).elim (fun q0=>ah (.no (.Eq (.a B C) (.a B D))) [(.lt C B),(.Eq (.a C (.c B)) (.a D (.c C)))] [[0,1,1,1]] rfl [a,b] [u,v,w] q0 h0) (fun q0=>ah (.no (.Eq (.a B C) (.a B D))) [(.lt B C),(.Eq (.a C (.c B)) (.a D (.c C)))] [[1,0,1,0,1]] rfl [a,b] [u,v,w] q0 h0)
theorem abT:¬(b<8)->¬(b<12)->¬(b<12+a)->a<=b-8-4:=fun h0 h1 h2=>(spS b 8).elim (fun q0=>(spS (b-8) 4).elim (fun q1=>ah (.le B D) [(.eq (.a D n4) E),(.eq (.a E n8) C),(.no (.lt C n8)),(.no (.lt C fN)),(.no (.lt C (.a fN B)))] [[1,0,1,0,1,0,0,1]] rfl [a,b,((b-8)-4),(b-8)] [] q1 q0 h0 h1 h2) (fun q1=>ah (.le B D) [(.d (.lt E n4) (.eq D n0)),(.eq (.a E n8) C),(.no (.lt C n8)),(.no (.lt C fN)),(.no (.lt C (.a fN B)))] [[0,1,0,0,0,1,0,1]] rfl [a,b,((b-8)-4),(b-8)] [] q1 q0 h0 h1 h2)) (fun q0=>ah (.le B D) [(.d (.lt C n8) (.eq E n0)),(.no (.lt C n8)),(.no (.lt C fN)),(.no (.lt C (.a fN B)))] [[0,1,0,0,1]] rfl [a,b,((b-8)-4),(b-8)] [] q0 h0 h1 h2)
theorem abU:a<=8->min a b<=8:=fun h0=>(i8 a b).elim (fun q0=>ah (.le D n8) [(.d (.le B C) (.eq D B)),(.le B n8)] [[1,0,1,0,1]] rfl [a,b,(min a b)] [] q0 h0) (fun q0=>ah (.le D n8) [(.d (.lt C B) (.eq D C)),(.le B n8)] [[1,1,1,0,1]] rfl [a,b,(min a b)] [] q0 h0)
theorem abV:a+1+0+b=a+(b+1):=ah (.eq (.a (.a (.a B n1) n0) C) (.a B (.a C n1))) [] [[1],[1]] rfl [a,b] []
theorem abW:a<=100->¬(0+a>16777216):=ah (.no (.lt eg (.a n0 B))) [(.le B eB)] [[1,1]] rfl [a] []
theorem abX:b<c->32<=a/\a<127->d=a % 256->a<256:=by lia
theorem abY:32<=a->0<=(a:Int):=ah (.Le n0 (.c B)) [(.le (.n 32) B)] [[1,1]] rfl [a] []
theorem abZ:a<127->(a:Int)<=1114111:=ah (.Le (.c B) (.n 1114111)) [(.lt B (.n 127))] [[1,1]] rfl [a] []
theorem ab0:32<=a/\a<127->a<128:=ah (.lt B (.n 128)) [(.d (.le (.n 32) B) (.lt B (.n 127)))] [[1,0,1]] rfl [a] []
theorem ab1:32<=a/\a<127->0<=(a:Int)/\(a:Int)<256:=ah (.d (.Le n0 (.c B)) (.Lt (.c B) iB)) [(.d (.le (.n 32) B) (.lt B (.n 127)))] [[1,1],[1,0,1]] rfl [a] []
theorem ab2:b<=8->a<=5000->a+b<=100000:=ah (.le (.a B C) aJ) [(.le C n8),(.le B (.n 5000))] [[1,1,1]] rfl [a,b] []
theorem ab3:1<=a/\a<=255->(b+a) % 256=b->False:=by lia
theorem ab4:160<=b->min 160 a<=b:=fun h0=>(i8 160 a).elim (fun q0=>ah (.le D C) [(.d (.le cM B) (.eq D cM)),(.le cM C)] [[1,0,1,0,1]] rfl [a,b,(min 160 a)] [] q0 h0) (fun q0=>ah (.le D C) [(.d (.lt B cM) (.eq D B)),(.le cM C)] [[1,1,1,0,1]] rfl [a,b,(min 160 a)] [] q0 h0)
theorem ab5:¬(208+a<208):=ah (.no (.lt (.a (.n 208) B) (.n 208))) [] [[1,1]] rfl [a] []
theorem ab6:a=160->min 208 (a+(384-160))+a+(a+(384-160)-368)=384:=fun h0=>(spS 384 160).elim (fun q0=>(spS (a+(384-160)) 368).elim (fun q1=>(i8 208 (a+(384-160))).elim (fun q2=>ah (.eq (.a (.a C B) D) gd) [(.d (.le (.n 208) (.a B E)) (.eq C (.n 208))),(.eq (.a D (.n 368)) (.a B E)),(.eq (.a E cM) gd),(.eq B cM)] [[1,0,0,1,0,1,0,1,0,2],[1,0,1,0,1,0,1,0,2]] rfl [a,(min 208 (a+(384-160))),((a+(384-160))-368),(384-160)] [] q2 q1 q0 h0) (fun q2=>ah (.eq (.a (.a C B) D) gd) [(.d (.lt (.a B E) (.n 208)) (.eq C (.a B E))),(.eq (.a D (.n 368)) (.a B E)),(.eq (.a E cM) gd),(.eq B cM)] [[0,1,0,0,1,0,0,0,0,0,0,0,1],[0,1,0,0,1,0,0,0,0,0,0,0,1]] rfl [a,(min 208 (a+(384-160))),((a+(384-160))-368),(384-160)] [] q2 q1 q0 h0)) (fun q1=>ah (.eq (.a (.a C B) D) gd) [(.d (.lt (.a B E) (.n 368)) (.eq D n0)),(.eq (.a E cM) gd),(.eq B cM)] [[0,1,0,0,0,1,0,1],[0,1,0,0,0,1,0,1]] rfl [a,(min 208 (a+(384-160))),((a+(384-160))-368),(384-160)] [] q1 q0 h0)) (fun q0=>ah (.eq (.a (.a C B) D) gd) [(.d (.lt gd cM) (.eq E n0)),(.eq B cM)] [[0,1],[0,1]] rfl [a,(min 208 (a+(384-160))),((a+(384-160))-368),(384-160)] [] q0 h0)
theorem ab7:a=160->160<=min 208 (a+(384-160)):=fun h0=>(i8 208 (a+(384-160))).elim (fun q0=>ah (.le cM C) [(.d (.le (.n 208) (.a B D)) (.eq C (.n 208))),(.eq B cM)] [[1,0,0,1]] rfl [a,(min 208 (a+(384-160))),(384-160)] [] q0 h0) (fun q0=>ah (.le cM C) [(.d (.lt (.a B D) (.n 208)) (.eq C (.a B D))),(.eq B cM)] [[1,0,0,1,0,1,0,0,1]] rfl [a,(min 208 (a+(384-160))),(384-160)] [] q0 h0)
theorem ab8:a=160->min 160 208<=a:=fun h0=>(i8 160 208).elim (fun q0=>ah (.le C B) [(.d (.le cM (.n 208)) (.eq C cM)),(.eq B cM)] [[1,0,1,0,0,1]] rfl [a,(min 160 208)] [] q0 h0) (fun q0=>ah (.le C B) [(.d (.lt (.n 208) cM) (.eq C (.n 208))),(.eq B cM)] [[0,1]] rfl [a,(min 160 208)] [] q0 h0)
theorem ab9:a=160->a<=min 160 208:=fun h0=>(i8 160 208).elim (fun q0=>ah (.le B C) [(.d (.le cM (.n 208)) (.eq C cM)),(.eq B cM)] [[1,0,0,1,1]] rfl [a,(min 160 208)] [] q0 h0) (fun q0=>ah (.le B C) [(.d (.lt (.n 208) cM) (.eq C (.n 208))),(.eq B cM)] [[0,1]] rfl [a,(min 160 208)] [] q0 h0)
theorem ab_:a=160->min 208 (a+(384-160))=208:=fun h0=>(spS 384 160).elim (fun q0=>(i8 208 (a+(384-160))).elim (fun q1=>ah (.eq C (.n 208)) [(.d (.le (.n 208) (.a B D)) (.eq C (.n 208))),(.eq (.a D cM) gd),(.eq B cM)] [[1,0,0,1],[1,0,1]] rfl [a,(min 208 (a+(384-160))),(384-160)] [] q1 q0 h0) (fun q1=>ah (.eq C (.n 208)) [(.d (.lt (.a B D) (.n 208)) (.eq C (.a B D))),(.eq (.a D cM) gd),(.eq B cM)] [[0,1,0,0,0,1,0,1],[1,1,1]] rfl [a,(min 208 (a+(384-160))),(384-160)] [] q1 q0 h0)) (fun q0=>ah (.eq C (.n 208)) [(.d (.lt gd cM) (.eq D n0)),(.eq B cM)] [[0,1],[0,1]] rfl [a,(min 208 (a+(384-160))),(384-160)] [] q0 h0)
theorem aca:a<=100000->a<=1099511627776:=ah (.le B (.n 1099511627776)) [(.le B aJ)] [[1,1]] rfl [a] []
theorem acb:0<=u/\u<=1114111->¬(u<0):=ah (.no (.Lt B n0)) [(.d (.Le n0 B) (.Le B (.n 1114111)))] [[1,1]] rfl [] [u]
theorem acd:0<=u/\u<=1114111->¬(u>1114111):=ah (.no (.Lt (.n 1114111) B)) [(.d (.Le n0 B) (.Le B (.n 1114111)))] [[1,0,1]] rfl [] [u]
theorem ace:min 63 a<=63:=(i8 63 a).elim (fun q0=>ah (.le C (.n 63)) [(.d (.le (.n 63) B) (.eq C (.n 63)))] [[1,0,1]] rfl [a,(min 63 a)] [] q0) (fun q0=>ah (.le C (.n 63)) [(.d (.lt B (.n 63)) (.eq C B))] [[1,1,1]] rfl [a,(min 63 a)] [] q0)
theorem acf:b<=6->a<=0+c->c<=b->a<64:=ah (.lt B (.n 64)) [(.le C (.n 6)),(.le B (.a n0 D)),(.le D C)] [[1,1,1,1]] rfl [a,b,c] []
theorem acg:b<=6->a<=0+c->c<=b->a<=1000:=ah (.le B gJ) [(.le C (.n 6)),(.le B (.a n0 D)),(.le D C)] [[1,1,1,1]] rfl [a,b,c] []
theorem ach:b<=1000->a=b->a<=1000:=ah (.le B gJ) [(.le C gJ),(.eq B C)] [[1,1,1]] rfl [a,b] []
theorem aci:¬(0>300):=ah (.no (.lt (.n 300) n0)) [] [[1]] rfl [] []
theorem acj:a<64->¬(a/30+1>300):=by lia
theorem ack:b<=c->c<=d->a=c-b->d<=100000->a<=100000:=fun h0 h1 h2 h3=>(spS c b).elim (fun q0=>ah (.le B aJ) [(.eq (.a F C) D),(.le C D),(.le D E),(.eq B F),(.le E aJ)] [[1,1,0,0,1,1,0,1,0,1]] rfl [a,b,c,d,(c-b)] [] q0 h0 h1 h2 h3) (fun q0=>ah (.le B aJ) [(.d (.lt D C) (.eq F n0)),(.le C D),(.le D E),(.eq B F),(.le E aJ)] [[0,1,0,0,1]] rfl [a,b,c,d,(c-b)] [] q0 h0 h1 h2 h3)
theorem acm:a<=c->c<=b->min a b=a:=fun h0 h1=>(i8 a b).elim (fun q0=>ah (.eq E B) [(.d (.le B C) (.eq E B)),(.le B D),(.le D C)] [[1,0,0,1],[1,0,1]] rfl [a,b,c,(min a b)] [] q0 h0 h1) (fun q0=>ah (.eq E B) [(.d (.lt C B) (.eq E C)),(.le B D),(.le D C)] [[0,1,0,0,1,1],[0,1,0,0,1,1]] rfl [a,b,c,(min a b)] [] q0 h0 h1)
theorem acn:a<=b->min a b=a:=fun h0=>(i8 a b).elim (fun q0=>ah (.eq D B) [(.d (.le B C) (.eq D B)),(.le B C)] [[1,0,0,1],[1,0,1]] rfl [a,b,(min a b)] [] q0 h0) (fun q0=>ah (.eq D B) [(.d (.lt C B) (.eq D C)),(.le B C)] [[0,1,0,0,1],[0,1,0,0,1]] rfl [a,b,(min a b)] [] q0 h0)
theorem aco:a<=b->c=a->d=b->max (a:Int) (b:Int)=(b:Int):=by lia
theorem acq:b<=a->c=b->d=a->max (b:Int) (a:Int)=(a:Int)->((a-b:Nat):Int)=(a:Int)-(b:Int):=by lia
theorem acr:a<=d->d<=b->c=d-a->b<=100000->e=a->i=d->max (a:Int) (d:Int)=(d:Int)->min a b+(c+(b-d))<=100000:=by lia
theorem acs:a+b<=100000->a+b<=100000:=ah (.le (.a B C) aJ) [(.le (.a B C) aJ)] [[1,1]] rfl [a,b] []
theorem acu:c<=b->a+1<c->a+1≠b:=ah (.no (.eq (.a B n1) C)) [(.le D C),(.lt (.a B n1) D)] [[0,1,1,1]] rfl [a,b,c] []
theorem acv:c<=b->a+1<c/\d<c/\e<c->a≠b:=ah (.no (.eq B C)) [(.le D C),(.d (.lt (.a B n1) D) (.d (.lt E D) (.lt F D)))] [[0,1,1,1]] rfl [a,b,c,d,e] []
theorem acw:c<=b->a+1<c/\d<c/\e<c->a+1≠b:=ah (.no (.eq (.a B n1) C)) [(.le D C),(.d (.lt (.a B n1) D) (.d (.lt E D) (.lt F D)))] [[0,1,1,1]] rfl [a,b,c,d,e] []
theorem acx:c<=b->d+1<c/\a<c/\e<c->a≠b:=ah (.no (.eq B C)) [(.le D C),(.d (.lt (.a E n1) D) (.d (.lt B D) (.lt F D)))] [[0,1,1,0,1]] rfl [a,b,c,d,e] []
theorem acy:c<=b->d+1<c/\e<c/\a<c->a≠b:=ah (.no (.eq B C)) [(.le D C),(.d (.lt (.a E n1) D) (.d (.lt F D) (.lt B D)))] [[0,1,1,0,0,1]] rfl [a,b,c,d,e] []
theorem acz:a<=d+c->d<=b+1->a<=b+(c+1):=ah (.le B (.a C (.a D n1))) [(.le B (.a E D)),(.le E (.a C n1))] [[1,1,1]] rfl [a,b,c,d] []
theorem acA:a<=100*b->b<=10->a<=1000:=ah (.le B gJ) [(.le B (.m 100 C)),(.le C dY)] [[1,1,100]] rfl [a,b] []
theorem acB:c<=100->b<=c->min a b<=100:=fun h0 h1=>(i8 a b).elim (fun q0=>ah (.le E eB) [(.d (.le B C) (.eq E B)),(.le D eB),(.le C D)] [[1,1,1,0,1,1]] rfl [a,b,c,(min a b)] [] q0 h0 h1) (fun q0=>ah (.le E eB) [(.d (.lt C B) (.eq E C)),(.le D eB),(.le C D)] [[1,0,1,0,1,1]] rfl [a,b,c,(min a b)] [] q0 h0 h1)
theorem acC:b<=100->c<=b->a<=min d c->a<=100000:=fun h0 h1 h2=>(i8 d c).elim (fun q0=>ah (.le B aJ) [(.d (.le E D) (.eq F E)),(.le C eB),(.le D C),(.le B F)] [[1,1,1,0,1,1,1]] rfl [a,b,c,d,(min d c)] [] q0 h0 h1 h2) (fun q0=>ah (.le B aJ) [(.d (.lt D E) (.eq F D)),(.le C eB),(.le D C),(.le B F)] [[1,0,1,0,1,1,1]] rfl [a,b,c,d,(min d c)] [] q0 h0 h1 h2)
end
end
open PySem PySem.W PyProof.Rows PySem.Calls PySem.Spec
abbrev eD:= @Nat.lt_of_lt_of_le
abbrev eW:= @List.length_map
abbrev iP:= @List.getElem?_eq_getElem
abbrev dZ:= @Option.some.inj
abbrev gS:= @Heap.get?_push_of_some
abbrev dT:= @Nat.le_refl
abbrev ip:= @List.length_append
abbrev i9:= @Nat.le_of_ble_eq_true
abbrev gA:= @Nat.lt_succ_self
abbrev pS:= @List.getD_eq_getElem?_getD
abbrev fW:= @List.size_toArray
abbrev ie:= @List.length_take
abbrev jB:= @List.mem_of_getElem?
abbrev iQ:= @Heap.get?_push_size
abbrev i_:= @List.getElem?_map
abbrev g_:= @List.take_length
abbrev ja:= @List.map_append
abbrev nK:= @Option.map_eq_some_iff
abbrev l7:= @Int.toNat_natCast
abbrev qP:= @List.take_of_length_le
abbrev oH:= @List.length_drop
abbrev aN:= @wpAny_bind
abbrev cP:= @wpAny_pure
abbrev rr:= @List.mem_cons_self
abbrev bR:= @of_decide_eq_true
abbrev oI:= @List.length_cons
abbrev jb:= @Nat.le_trans
section
set_option backward.match.sparseCases false
noncomputable abbrev PP:Program:=Challenge.rw_pb0586_01.row.toRowW.1
noncomputable def st(i:Nat):Stmt:=PP.main.body.getD i (.Pass default)
noncomputable def fi(i j:Nat):Stmt:=match st i with
 | .ClassDef _ _ _ b _ _ _ _ _ _ _=>b.getD j (.Pass default)
 |s=>s
noncomputable abbrev k(P:Params)(x:Str)(t:Nat)(v:Value):DictEntry:=⟨PyData.keyHash P x,.str x t,v⟩
noncomputable abbrev sv(x:Str)(t:Nat):Value:= .str x t
noncomputable abbrev r(a:Nat):Value:= .ref a
noncomputable def fn(s:Stmt)(q:Str)(d kd doc pm:Value)(ann:Option Addr)(code ct:Value)(g b:Addr)(cl:List (Str×Addr)):FuncData:=match s with
 | .FunctionDef n ps body _ _ _ sc _ _ _=>⟨n,q,ps,.stmts body,sc,g,cl,d,kd,doc,pm,ann,code,ct,b⟩
 |_=>default
noncomputable abbrev i0(n:Int):Value:= .int n 0
noncomputable abbrev bX:Obj:=⟨.type "tuple",none,.seq #[] 0, #[]⟩
noncomputable abbrev z0:Obj:=⟨.none,none,.fields #[], #[]⟩
noncomputable abbrev tu(l:Array Value):Obj:=⟨.type "tuple",none,.seq l 0, #[]⟩
noncomputable abbrev zf(l:Array Value):Obj:=⟨.none,none,.fields l, #[]⟩
noncomputable abbrev di(l:Array DictEntry)(n:Nat):Obj:=⟨.type "dict",none,.dict l n, #[]⟩
noncomputable abbrev bf(x:String)(v:Value):Obj:=⟨.type "builtin_function_or_method",none,.fields #[.builtin x,v], #[]⟩
noncomputable abbrev fm(a b c:Nat)(x:Str)(t:Nat):Obj:=⟨.type "frame",none,.plain, #[some (r a),some (r b),some (r c),none,some (sv x t),none,some (r 0)]⟩
noncomputable abbrev fu(s:Stmt)(q:Str):Obj:=⟨.none,none,.func (fn s q .none .none .none .none none .none .none 0 0 []), #[]⟩
noncomputable abbrev ff(s:Stmt)(q m:Str)(t a b:Nat):Obj:=⟨.type "function",none,.func (fn s q .none .none .none (sv m t) none (r a) .none b 0 []), #[]⟩
noncomputable abbrev cg(n q:Str)(t:Nat)(a b e:Int)(f:Nat)(x:Bool)(h:Int)(l:List Value)(u:Nat):Obj:=⟨.type "code",none,.fields ([sv n t,sv q (t+1),sv "/claim/cut.py" (t+2),i0 a,i0 b,i0 0,i0 0,i0 e,r f,.bool x,i0 h]++l++ [i0 u,i0 a,sv "/claim/cut.py" (u+1)]).toArray, #[]⟩
noncomputable abbrev cf(n q:Str)(t:Nat)(a b:Int)(f u:Nat):Obj:=cg n q t a b 3 f true 181 [r (f+1),.none,r (f+2),r (f+3),r (f+4)] u
noncomputable abbrev cm(n q:Str)(t:Nat)(a:Int)(f:Nat)(h:Int)(u:Nat):Obj:=cg n q t a 0 0 f false h [r (f+1),.none,.none,.none,.none] u
noncomputable def bo(P:Params)(i:Nat):Obj:=(boot_heap P).objs.toList.getD i default
noncomputable def hl0(P:Params):List Obj:= [
 bo P 0,
 di #[k P "builtins" 162 (r 4),k P "__main__" 163 (r 5)] 2,
 ⟨.none,none,.dict #[k P "type.__subclasses__.Exception.0" 221 (i0 38),k P "type.__subclasses__.Exception.n" 222 (i0 1)] 2, #[]⟩,
 di #[k P "__name__" 165 (sv "law_pb0586_01" 930),k P "__doc__" 166 .none,k P "__package__" 167 .none,k P "__loader__" 168 (.builtin "__main__.__loader__#opaque"),k P "__spec__" 169 .none,k P "__annotations__" 170 (r 6),k P "__builtins__" 171 (r 4),k P "__file__" 173 (sv "/claim/cut.py" 172),k P "__cached__" 174 .none,k P "_wall" 193 (r 21),k P "PoolFault" 224 (r 38),k P "Corrupt" 240 (r 51),k P "Misused" 256 (r 63),k P "Unopened" 272 (r 75),k P "number_of" 280 (r 82),k P "octets_of" 286 (r 87),k P "text_octets" 292 (r 92),k P "octets_text" 298 (r 97),k P "Sink" 359 (r 142),k P "Cursor" 422 (r 192),k P "padded" 430 (r 203),k P "MAGIC" 434 (.int 1953654117 433),k P "VERSION" 436 (.int 1 435),k P "MOST_PARITY" 438 (.int 3 437),k P "MOST_CHILDREN" 440 (.int 32 439),k P "NUMBERS" 444 (.int 4294967296 443),k P "Node" 486 (r 227),k P "Config" 528 (r 254),k P "sorts" 534 (r 265),k P "number_of_disks" 544 (r 272),k P "disk_node" 551 (r 279),k P "node_of" 557 (r 284),k P "disks_of" 566 (r 291),k P "config_of_plans" 573 (r 297),k P "all_disks" 582 (r 304),k P "put_node" 591 (r 311),k P "config_octets" 600 (r 318),k P "read_node" 606 (r 323),k P "config_of" 612 (r 328),k P "Shape" 674 (r 346),k P "many_of" 682 (r 357),k P "SUM" 686 (.int 8 685),k P "LENGTH" 688 (.int 4 687),k P "slot_sectors" 695 (r 364),k P "config_sectors" 702 (r 371),k P "label_sectors" 709 (r 378),k P "label_begins" 717 (r 385),k P "part_sum" 723 (r 390),k P "config_part" 733 (r 397),k P "config_in" 741 (r 404),k P "put_config" 752 (r 411),k P "read_config" 763 (r 418),k P "GUID" 767 (.int 4 766),k P "label_octets" 775 (r 425),k P "write_labels" 785 (r 432),k P "Disk" 921 (r 526),k P "found_disks" 929 (r 535),k P "_law_cell" 939 (r 542),k P "_law_plans" 945 (r 547),k P "_law_configs" 957 (r 554),k P "_law_harm" 968 (r 561),k P "_law_disk" 985 (r 568),k P "_law_told" 994 (r 575),k P "law" 1000 (r 580)] 64,
 ⟨(.type "module"),some 0,.plain, #[]⟩,
 ⟨(.type "module"),some 3,.plain, #[]⟩,
 di #[] 0,
 bX,
 z0,
 cm "<module>" "<module>" 176 1 7 175 179,
 fm 9 3 3 "__main__" 164,
 bX,
 zf #[(i0 1),(i0 0),(r 20),(i0 5),(i0 0),(r 27),(i0 10),(i0 0),(r 47),(i0 12),(i0 0),(r 59),(i0 14),(i0 0),(r 71),(i0 17),(i0 0),(r 81),(i0 19),(i0 0),(r 86),(i0 23),(i0 0),(r 91),(i0 28),(i0 0),(r 96),(i0 32),(i0 0),(r 103),(i0 50),(i0 0),(r 152),(i0 71),(i0 0),(r 202),(i0 81),(i0 0),(r 209),(i0 91),(i0 0),(r 237),(i0 101),(i0 0),(r 264),(i0 103),(i0 0),(r 271),(i0 108),(i0 0),(r 278),(i0 114),(i0 0),(r 283),(i0 127),(i0 0),(r 290),(i0 134),(i0 0),(r 296),(i0 142),(i0 0),(r 303),(i0 147),(i0 0),(r 310),(i0 154),(i0 0),(r 317),(i0 165),(i0 0),(r 322),(i0 175),(i0 0),(r 327),(i0 184),(i0 0),(r 334),(i0 198),(i0 0),(r 356),(i0 203),(i0 0),(r 363),(i0 205),(i0 0),(r 370),(i0 207),(i0 0),(r 377),(i0 209),(i0 0),(r 384),(i0 211),(i0 0),(r 389),(i0 215),(i0 0),(r 396),(i0 221),(i0 0),(r 403),(i0 226),(i0 0),(r 410),(i0 230),(i0 0),(r 417),(i0 239),(i0 0),(r 424),(i0 241),(i0 0),(r 431),(i0 246),(i0 0),(r 438),(i0 316),(i0 0),(r 534),(i0 334),(i0 0),(r 541),(i0 336),(i0 0),(r 546),(i0 341),(i0 0),(r 553),(i0 346),(i0 0),(r 560),(i0 349),(i0 0),(r 567),(i0 362),(i0 0),(r 574),(i0 365),(i0 0),(r 579)],
 cm "<module>" "<module>" 182 1 11 181 185,
 fm 13 3 3 "__main__" 164,
 bX,
 z0,
 tu #[(sv "k" 190)],
 bX,
 fu (st 0) "_wall",
 cf "_wall" "_wall" 187 1 1 15 191,
 ff (st 0) "_wall" "__main__" 164 20 3,
 tu #[(.type "Exception")],
 bf "type.__prepare__" (.type "type"),
 di #[k P "__module__" 203 (sv "treepool.faults" 194),k P "__qualname__" 205 (sv "PoolFault" 204),k P "__firstlineno__" 207 (.int 5 206),k P "__init__" 215 (r 35),k P "__static_attributes__" 217 (r 36)] 5,
 bX,
 zf #[(i0 7),(i0 4),(r 34)],
 cm "PoolFault" "PoolFault" 198 5 25 181 201,
 fm 27 3 24 "treepool.faults" 194,
 bX,
 z0,
 tu #[(sv "self" 211),(sv "why" 212)],
 bX,
 fu (fi 2 0) "PoolFault.__init__",
 cf "__init__" "PoolFault.__init__" 208 7 2 29 213,
 ff (fi 2 0) "PoolFault.__init__" "treepool.faults" 194 34 3,
 tu #[(sv "why" 216)],
 di #[k P "__module__" 203 (sv "treepool.faults" 194),k P "__firstlineno__" 207 (.int 5 206),k P "__init__" 215 (r 35),k P "__static_attributes__" 217 (r 36),k P "__weakref__" 219 (r 39),k P "__doc__" 220 .none] 3,
 ⟨(.type "type"),none,.cls ⟨"PoolFault", [(.type "Exception")], [(r 38),(.type "Exception"),(.type "BaseException"),(.type "object")],37,"PoolFault",true, [], [(r 51),(r 63),(r 75)],false,none,false⟩, #[some (r 22),none,some (sv "PoolFault" 196),some (sv "PoolFault" 204),some (.builtin "Exception.__new__"),some (.bool true)]⟩,
 ⟨(.type "getset_descriptor"),none,.fields #[(sv "__weakref__" 218),(r 38),(.builtin "ExceptionGroup.__weakref__"),.none], #[]⟩]
noncomputable def Kd(P:Params):List Obj:= [
 ⟨(.type "super"),none,.fields #[(r 38),(r 38),(r 38)], #[]⟩,
 bf "object.__init_subclass__" (r 38),
 tu #[(r 38)],
 bf "type.__prepare__" (.type "type"),
 di #[k P "__module__" 232 (sv "treepool.faults" 194),k P "__qualname__" 234 (sv "Corrupt" 233),k P "__firstlineno__" 236 (.int 10 235),k P "__static_attributes__" 237 (r 49)] 4,
 bX,
 z0,
 cm "Corrupt" "Corrupt" 227 10 45 181 230,
 fm 47 3 44 "treepool.faults" 194,
 bX,
 di #[k P "__module__" 232 (sv "treepool.faults" 194),k P "__firstlineno__" 236 (.int 10 235),k P "__static_attributes__" 237 (r 49),k P "__doc__" 238 .none] 2,
 ⟨(.type "type"),none,.cls ⟨"Corrupt", [(r 38)], [(r 51),(r 38),(.type "Exception"),(.type "BaseException"),(.type "object")],50,"Corrupt",true, [], [],false,none,false⟩, #[some (r 42),none,some (sv "Corrupt" 225),some (sv "Corrupt" 233),some (.builtin "Exception.__new__"),some (.bool true)]⟩,
 ⟨(.type "super"),none,.fields #[(r 51),(r 51),(r 51)], #[]⟩,
 bf "object.__init_subclass__" (r 51),
 tu #[(r 38)],
 bf "type.__prepare__" (.type "type"),
 di #[k P "__module__" 248 (sv "treepool.faults" 194),k P "__qualname__" 250 (sv "Misused" 249),k P "__firstlineno__" 252 (.int 12 251),k P "__static_attributes__" 253 (r 61)] 4,
 bX,
 z0,
 cm "Misused" "Misused" 243 12 57 181 246,
 fm 59 3 56 "treepool.faults" 194,
 bX,
 di #[k P "__module__" 248 (sv "treepool.faults" 194),k P "__firstlineno__" 252 (.int 12 251),k P "__static_attributes__" 253 (r 61),k P "__doc__" 254 .none] 2,
 ⟨(.type "type"),none,.cls ⟨"Misused", [(r 38)], [(r 63),(r 38),(.type "Exception"),(.type "BaseException"),(.type "object")],62,"Misused",true, [], [],false,none,false⟩, #[some (r 54),none,some (sv "Misused" 241),some (sv "Misused" 249),some (.builtin "Exception.__new__"),some (.bool true)]⟩,
 ⟨(.type "super"),none,.fields #[(r 63),(r 63),(r 63)], #[]⟩,
 bf "object.__init_subclass__" (r 63),
 tu #[(r 38)],
 bf "type.__prepare__" (.type "type"),
 di #[k P "__module__" 264 (sv "treepool.faults" 194),k P "__qualname__" 266 (sv "Unopened" 265),k P "__firstlineno__" 268 (.int 14 267),k P "__static_attributes__" 269 (r 73)] 4,
 bX,
 z0,
 cm "Unopened" "Unopened" 259 14 69 181 262,
 fm 71 3 68 "treepool.faults" 194,
 bX,
 di #[k P "__module__" 264 (sv "treepool.faults" 194),k P "__firstlineno__" 268 (.int 14 267),k P "__static_attributes__" 269 (r 73),k P "__doc__" 270 .none] 2,
 ⟨(.type "type"),none,.cls ⟨"Unopened", [(r 38)], [(r 75),(r 38),(.type "Exception"),(.type "BaseException"),(.type "object")],74,"Unopened",true, [], [],false,none,false⟩, #[some (r 66),none,some (sv "Unopened" 257),some (sv "Unopened" 265),some (.builtin "Exception.__new__"),some (.bool true)]⟩,
 ⟨(.type "super"),none,.fields #[(r 75),(r 75),(r 75)], #[]⟩,
 bf "object.__init_subclass__" (r 75),
 bX,
 z0]
noncomputable def Cw(P:Params):List Obj:= [
 fu (st 7) "number_of",
 cg "number_of" "number_of" 275 17 1 3 78 true 181 [(r 79),.none,.none,.none,(r 80)] 278,
 ff (st 7) "number_of" "treepool.octets" 273 81 3,
 bX,
 z0,
 fu (st 8) "octets_of",
 cg "octets_of" "octets_of" 281 19 2 3 83 true 181 [(r 84),.none,.none,.none,(r 85)] 284,
 ff (st 8) "octets_of" "treepool.octets" 273 86 3,
 bX,
 z0,
 fu (st 9) "text_octets",
 cg "text_octets" "text_octets" 287 23 1 3 88 true 181 [(r 89),.none,.none,.none,(r 90)] 290,
 ff (st 9) "text_octets" "treepool.octets" 273 91 3,
 bX,
 z0,
 fu (st 10) "octets_text",
 cg "octets_text" "octets_text" 293 28 1 3 93 true 181 [(r 94),.none,.none,.none,(r 95)] 296,
 ff (st 10) "octets_text" "treepool.octets" 273 96 3,
 bX,
 bf "type.__prepare__" (.type "type"),
 di #[k P "__module__" 306 (sv "treepool.octets" 273),k P "__qualname__" 308 (sv "Sink" 307),k P "__firstlineno__" 310 (.int 32 309),k P "__init__" 317 (r 111),k P "number" 326 (r 118),k P "put" 334 (r 125),k P "text" 343 (r 132),k P "whole" 350 (r 139),k P "__static_attributes__" 352 (r 140)] 9,
 bX,
 zf #[(i0 34),(i0 4),(r 110),(i0 37),(i0 4),(r 117),(i0 40),(i0 4),(r 124),(i0 43),(i0 4),(r 131),(i0 48),(i0 4),(r 138)],
 cm "Sink" "Sink" 301 32 101 181 304,
 fm 103 3 100 "treepool.octets" 273,
 bX,
 z0,
 tu #[(sv "self" 314)],
 bX,
 fu (fi 11 0) "Sink.__init__",
 cf "__init__" "Sink.__init__" 311 34 1 105 315,
 ff (fi 11 0) "Sink.__init__" "treepool.octets" 273 110 3,
 bX,
 z0,
 tu #[(sv "self" 321),(sv "number" 322),(sv "size" 323)],
 bX,
 fu (fi 11 1) "Sink.number",
 cf "number" "Sink.number" 318 37 3 112 324,
 ff (fi 11 1) "Sink.number" "treepool.octets" 273 117 3,
 bX]
noncomputable def TR(P:Params):List Obj:= [
 z0,
 tu #[(sv "self" 330),(sv "octets" 331)],
 bX,
 fu (fi 11 2) "Sink.put",
 cf "put" "Sink.put" 327 40 2 119 332,
 ff (fi 11 2) "Sink.put" "treepool.octets" 273 124 3,
 bX,
 z0,
 tu #[(sv "self" 338),(sv "text" 339),(sv "octets" 340)],
 bX,
 fu (fi 11 3) "Sink.text",
 cf "text" "Sink.text" 335 43 2 126 341,
 ff (fi 11 3) "Sink.text" "treepool.octets" 273 131 3,
 bX,
 z0,
 tu #[(sv "self" 347)],
 bX,
 fu (fi 11 4) "Sink.whole",
 cf "whole" "Sink.whole" 344 48 1 133 348,
 ff (fi 11 4) "Sink.whole" "treepool.octets" 273 138 3,
 tu #[(sv "octets" 351)],
 di #[k P "__module__" 306 (sv "treepool.octets" 273),k P "__firstlineno__" 310 (.int 32 309),k P "__init__" 317 (r 111),k P "number" 326 (r 118),k P "put" 334 (r 125),k P "text" 343 (r 132),k P "whole" 350 (r 139),k P "__static_attributes__" 352 (r 140),k P "__dict__" 354 (r 143),k P "__weakref__" 356 (r 144),k P "__doc__" 357 .none] 4,
 ⟨(.type "type"),none,.cls ⟨"Sink", [(.type "object")], [(r 142),(.type "object")],141,"Sink",true, [], [],false,none,false⟩, #[none,none,some (sv "Sink" 299),some (sv "Sink" 307),some (.builtin "object.__new__"),some (.bool true)]⟩,
 ⟨(.type "getset_descriptor"),none,.fields #[(sv "__dict__" 353),(r 142),(.builtin "function.__dict__"),(.builtin "function.__dict__#set")], #[]⟩,
 ⟨(.type "getset_descriptor"),none,.fields #[(sv "__weakref__" 355),(r 142),(.builtin "ExceptionGroup.__weakref__"),.none], #[]⟩,
 ⟨(.type "super"),none,.fields #[(r 142),(r 142),(r 142)], #[]⟩,
 bf "object.__init_subclass__" (r 142),
 bX,
 bf "type.__prepare__" (.type "type"),
 di #[k P "__module__" 367 (sv "treepool.octets" 273),k P "__qualname__" 369 (sv "Cursor" 368),k P "__firstlineno__" 371 (.int 50 370),k P "__init__" 381 (r 161),k P "left" 388 (r 168),k P "take" 397 (r 175),k P "number" 405 (r 182),k P "text" 412 (r 189),k P "__static_attributes__" 415 (r 190)] 9,
 bX,
 zf #[(i0 52),(i0 4),(r 160),(i0 56),(i0 4),(r 167),(i0 59),(i0 4),(r 174),(i0 66),(i0 4),(r 181),(i0 69),(i0 4),(r 188)],
 cm "Cursor" "Cursor" 362 50 150 181 365,
 fm 152 3 149 "treepool.octets" 273,
 tu #[(.int 0 372)],
 bX,
 z0,
 tu #[(sv "self" 376),(sv "octets" 377),(sv "at" 378)],
 bX,
 fu (fi 12 0) "Cursor.__init__"]
noncomputable def hl4(P:Params):List Obj:= [
 cf "__init__" "Cursor.__init__" 373 52 3 155 379,
 ⟨(.type "function"),none,.func (fn (fi 12 0) "Cursor.__init__" (r 154) .none .none (sv "treepool.octets" 273) none (r 160) .none 3 0 []), #[]⟩,
 bX,
 z0,
 tu #[(sv "self" 385)],
 bX,
 fu (fi 12 1) "Cursor.left",
 cf "left" "Cursor.left" 382 56 1 162 386,
 ff (fi 12 1) "Cursor.left" "treepool.octets" 273 167 3,
 bX,
 z0,
 tu #[(sv "self" 392),(sv "many" 393),(sv "found" 394)],
 bX,
 fu (fi 12 2) "Cursor.take",
 cf "take" "Cursor.take" 389 59 2 169 395,
 ff (fi 12 2) "Cursor.take" "treepool.octets" 273 174 3,
 bX,
 z0,
 tu #[(sv "self" 401),(sv "size" 402)],
 bX,
 fu (fi 12 3) "Cursor.number",
 cf "number" "Cursor.number" 398 66 2 176 403,
 ff (fi 12 3) "Cursor.number" "treepool.octets" 273 181 3,
 bX,
 z0,
 tu #[(sv "self" 409)],
 bX,
 fu (fi 12 4) "Cursor.text",
 cf "text" "Cursor.text" 406 69 1 183 410,
 ff (fi 12 4) "Cursor.text" "treepool.octets" 273 188 3,
 tu #[(sv "at" 413),(sv "octets" 414)],
 di #[k P "__module__" 367 (sv "treepool.octets" 273),k P "__firstlineno__" 371 (.int 50 370),k P "__init__" 381 (r 161),k P "left" 388 (r 168),k P "take" 397 (r 175),k P "number" 405 (r 182),k P "text" 412 (r 189),k P "__static_attributes__" 415 (r 190),k P "__dict__" 417 (r 193),k P "__weakref__" 419 (r 194),k P "__doc__" 420 .none] 4,
 ⟨(.type "type"),none,.cls ⟨"Cursor", [(.type "object")], [(r 192),(.type "object")],191,"Cursor",true, [], [],false,none,false⟩, #[none,none,some (sv "Cursor" 360),some (sv "Cursor" 368),some (.builtin "object.__new__"),some (.bool true)]⟩,
 ⟨(.type "getset_descriptor"),none,.fields #[(sv "__dict__" 416),(r 192),(.builtin "function.__dict__"),(.builtin "function.__dict__#set")], #[]⟩,
 ⟨(.type "getset_descriptor"),none,.fields #[(sv "__weakref__" 418),(r 192),(.builtin "ExceptionGroup.__weakref__"),.none], #[]⟩,
 ⟨(.type "super"),none,.fields #[(r 192),(r 192),(r 192)], #[]⟩,
 bf "object.__init_subclass__" (r 192),
 bX,
 z0,
 tu #[(sv "octets" 426),(sv "size" 427)]]
noncomputable def hl5(P:Params):List Obj:= [
 bX,
 fu (st 13) "padded",
 cf "padded" "padded" 423 71 2 197 428,
 ff (st 13) "padded" "treepool.octets" 273 202 3,
 bX,
 bf "type.__prepare__" (.type "type"),
 di #[k P "__module__" 452 (sv "treepool.config" 431),k P "__qualname__" 454 (sv "Node" 453),k P "__firstlineno__" 456 (.int 81 455),k P "__init__" 468 (r 219),k P "plain" 474 (r 224),k P "__static_attributes__" 479 (r 225)] 6,
 bX,
 zf #[(i0 83),(i0 4),(r 218),(i0 89),(i0 4),(r 223)],
 cm "Node" "Node" 447 81 207 181 450,
 fm 209 3 206 "treepool.config" 431,
 bX,
 tu #[(r 211),(.int 0 457)],
 bX,
 z0,
 tu #[(sv "self" 461),(sv "sort" 462),(sv "guid" 463),(sv "children" 464),(sv "parity" 465)],
 bX,
 fu (fi 20 0) "Node.__init__",
 cf "__init__" "Node.__init__" 458 83 5 213 466,
 ⟨(.type "function"),none,.func (fn (fi 20 0) "Node.__init__" (r 212) .none .none (sv "treepool.config" 431) none (r 218) .none 3 0 []), #[]⟩,
 bX,
 z0,
 fu (fi 20 1) "Node.plain",
 cg "plain" "Node.plain" 469 89 1 3 220 true 181 [(r 221),.none,.none,.none,(r 222)] 472,
 ff (fi 20 1) "Node.plain" "treepool.config" 431 223 3,
 tu #[(sv "children" 475),(sv "guid" 476),(sv "parity" 477),(sv "sort" 478)],
 di #[k P "__module__" 452 (sv "treepool.config" 431),k P "__firstlineno__" 456 (.int 81 455),k P "__init__" 468 (r 219),k P "plain" 474 (r 224),k P "__static_attributes__" 479 (r 225),k P "__dict__" 481 (r 228),k P "__weakref__" 483 (r 229),k P "__doc__" 484 .none] 4,
 ⟨(.type "type"),none,.cls ⟨"Node", [(.type "object")], [(r 227),(.type "object")],226,"Node",true, [], [],false,none,false⟩, #[none,none,some (sv "Node" 445),some (sv "Node" 453),some (.builtin "object.__new__"),some (.bool true)]⟩,
 ⟨(.type "getset_descriptor"),none,.fields #[(sv "__dict__" 480),(r 227),(.builtin "function.__dict__"),(.builtin "function.__dict__#set")], #[]⟩,
 ⟨(.type "getset_descriptor"),none,.fields #[(sv "__weakref__" 482),(r 227),(.builtin "ExceptionGroup.__weakref__"),.none], #[]⟩,
 ⟨(.type "super"),none,.fields #[(r 227),(r 227),(r 227)], #[]⟩,
 bf "object.__init_subclass__" (r 227),
 bX,
 bf "type.__prepare__" (.type "type"),
 di #[k P "__module__" 494 (sv "treepool.config" 431),k P "__qualname__" 496 (sv "Config" 495),k P "__firstlineno__" 498 (.int 91 497),k P "__init__" 510 (r 246),k P "plain" 516 (r 251),k P "__static_attributes__" 521 (r 252)] 6,
 bX,
 zf #[(i0 93),(i0 4),(r 245),(i0 99),(i0 4),(r 250)],
 cm "Config" "Config" 489 91 235 181 492,
 fm 237 3 234 "treepool.config" 431,
 tu #[(.int 1 499)]]
noncomputable def hl6(P:Params):List Obj:= [
 bX,
 z0,
 tu #[(sv "self" 503),(sv "name" 504),(sv "guid" 505),(sv "tops" 506),(sv "edition" 507)],
 bX,
 fu (fi 21 0) "Config.__init__",
 cf "__init__" "Config.__init__" 500 93 5 240 508,
 ⟨(.type "function"),none,.func (fn (fi 21 0) "Config.__init__" (r 239) .none .none (sv "treepool.config" 431) none (r 245) .none 3 0 []), #[]⟩,
 bX,
 z0,
 fu (fi 21 1) "Config.plain",
 cg "plain" "Config.plain" 511 99 1 3 247 true 181 [(r 248),.none,.none,.none,(r 249)] 514,
 ff (fi 21 1) "Config.plain" "treepool.config" 431 250 3,
 tu #[(sv "edition" 517),(sv "guid" 518),(sv "name" 519),(sv "tops" 520)],
 di #[k P "__module__" 494 (sv "treepool.config" 431),k P "__firstlineno__" 498 (.int 91 497),k P "__init__" 510 (r 246),k P "plain" 516 (r 251),k P "__static_attributes__" 521 (r 252),k P "__dict__" 523 (r 255),k P "__weakref__" 525 (r 256),k P "__doc__" 526 .none] 4,
 ⟨(.type "type"),none,.cls ⟨"Config", [(.type "object")], [(r 254),(.type "object")],253,"Config",true, [], [],false,none,false⟩, #[none,none,some (sv "Config" 487),some (sv "Config" 495),some (.builtin "object.__new__"),some (.bool true)]⟩,
 ⟨(.type "getset_descriptor"),none,.fields #[(sv "__dict__" 522),(r 254),(.builtin "function.__dict__"),(.builtin "function.__dict__#set")], #[]⟩,
 ⟨(.type "getset_descriptor"),none,.fields #[(sv "__weakref__" 524),(r 254),(.builtin "ExceptionGroup.__weakref__"),.none], #[]⟩,
 ⟨(.type "super"),none,.fields #[(r 254),(r 254),(r 254)], #[]⟩,
 bf "object.__init_subclass__" (r 254),
 bX,
 z0,
 bX,
 bX,
 fu (st 22) "sorts",
 cf "sorts" "sorts" 529 101 0 259 532,
 ff (st 22) "sorts" "treepool.config" 431 264 3,
 bX,
 z0,
 tu #[(sv "guids" 538),(sv "parity" 539),(sv "found" 540),(sv "guid" 541)],
 bX,
 fu (st 23) "number_of_disks",
 cf "number_of_disks" "number_of_disks" 535 103 2 266 542,
 ff (st 23) "number_of_disks" "treepool.config" 431 271 3,
 bX,
 z0,
 tu #[(sv "plan" 548)],
 bX,
 fu (st 24) "disk_node",
 cf "disk_node" "disk_node" 545 108 1 273 549,
 ff (st 24) "disk_node" "treepool.config" 431 278 3]
noncomputable def hl7(P:Params):List Obj:= [
 bX,
 z0,
 fu (st 25) "node_of",
 cg "node_of" "node_of" 552 114 1 3 280 true 181 [(r 281),.none,.none,.none,(r 282)] 555,
 ff (st 25) "node_of" "treepool.config" 431 283 3,
 bX,
 z0,
 tu #[(sv "node" 561),(sv "found" 562),(sv "child" 563)],
 bX,
 fu (st 26) "disks_of",
 cf "disks_of" "disks_of" 558 127 1 285 564,
 ff (st 26) "disks_of" "treepool.config" 431 290 3,
 tu #[(.int 1 567)],
 bX,
 z0,
 fu (st 27) "config_of_plans",
 cg "config_of_plans" "config_of_plans" 568 134 4 3 293 true 181 [(r 294),.none,.none,.none,(r 295)] 571,
 ⟨(.type "function"),none,.func (fn (st 27) "config_of_plans" (r 292) .none .none (sv "treepool.config" 431) none (r 296) .none 3 0 []), #[]⟩,
 bX,
 z0,
 tu #[(sv "config" 577),(sv "found" 578),(sv "node" 579)],
 bX,
 fu (st 28) "all_disks",
 cf "all_disks" "all_disks" 574 142 1 298 580,
 ff (st 28) "all_disks" "treepool.config" 431 303 3,
 bX,
 z0,
 tu #[(sv "sink" 586),(sv "node" 587),(sv "child" 588)],
 bX,
 fu (st 29) "put_node",
 cf "put_node" "put_node" 583 147 2 305 589,
 ff (st 29) "put_node" "treepool.config" 431 310 3,
 bX,
 z0,
 tu #[(sv "config" 595),(sv "sink" 596),(sv "node" 597)],
 bX,
 fu (st 30) "config_octets",
 cf "config_octets" "config_octets" 592 154 1 312 598,
 ff (st 30) "config_octets" "treepool.config" 431 317 3,
 bX]
noncomputable def hl8(P:Params):List Obj:= [
 z0,
 fu (st 31) "read_node",
 cg "read_node" "read_node" 601 165 2 3 319 true 181 [(r 320),.none,.none,.none,(r 321)] 604,
 ff (st 31) "read_node" "treepool.config" 431 322 3,
 bX,
 z0,
 fu (st 32) "config_of",
 cg "config_of" "config_of" 607 175 1 3 324 true 181 [(r 325),.none,.none,.none,(r 326)] 610,
 ff (st 32) "config_of" "treepool.config" 431 327 3,
 bX,
 bf "type.__prepare__" (.type "type"),
 di #[k P "__module__" 622 (sv "treepool.shape" 613),k P "__qualname__" 624 (sv "Shape" 623),k P "__firstlineno__" 626 (.int 184 625),k P "__init__" 655 (r 343),k P "__static_attributes__" 667 (r 344)] 5,
 bX,
 zf #[(i0 186),(i0 4),(r 342)],
 cm "Shape" "Shape" 617 184 332 181 620,
 fm 334 3 331 "treepool.shape" 613,
 tu #[(.int 16 627),(.int 32 628),(.int 32 629),(.int 4 630),(.int 4 631),(.int 4 632),(.int 2 633),(.int 128 634),(.int 192 635),(.int 160 636),(.int 128 637)],
 bX,
 z0,
 tu #[(sv "self" 641),(sv "sector" 642),(sv "slab" 643),(sv "record" 644),(sv "fan" 645),(sv "dnodes" 646),(sv "ring" 647),(sv "defer" 648),(sv "most_record" 649),(sv "uber" 650),(sv "config" 651),(sv "zap" 652)],
 bX,
 fu (fi 34 0) "Shape.__init__",
 cf "__init__" "Shape.__init__" 638 186 12 337 653,
 ⟨(.type "function"),none,.func (fn (fi 34 0) "Shape.__init__" (r 336) .none .none (sv "treepool.shape" 613) none (r 342) .none 3 0 []), #[]⟩,
 tu #[(sv "config" 656),(sv "defer" 657),(sv "dnodes" 658),(sv "fan" 659),(sv "most_record" 660),(sv "record" 661),(sv "ring" 662),(sv "sector" 663),(sv "slab" 664),(sv "uber" 665),(sv "zap" 666)],
 di #[k P "__module__" 622 (sv "treepool.shape" 613),k P "__firstlineno__" 626 (.int 184 625),k P "__init__" 655 (r 343),k P "__static_attributes__" 667 (r 344),k P "__dict__" 669 (r 347),k P "__weakref__" 671 (r 348),k P "__doc__" 672 .none] 4,
 ⟨(.type "type"),none,.cls ⟨"Shape", [(.type "object")], [(r 346),(.type "object")],345,"Shape",true, [], [],false,none,false⟩, #[none,none,some (sv "Shape" 615),some (sv "Shape" 623),some (.builtin "object.__new__"),some (.bool true)]⟩,
 ⟨(.type "getset_descriptor"),none,.fields #[(sv "__dict__" 668),(r 346),(.builtin "function.__dict__"),(.builtin "function.__dict__#set")], #[]⟩,
 ⟨(.type "getset_descriptor"),none,.fields #[(sv "__weakref__" 670),(r 346),(.builtin "ExceptionGroup.__weakref__"),.none], #[]⟩,
 ⟨(.type "super"),none,.fields #[(r 346),(r 346),(r 346)], #[]⟩,
 bf "object.__init_subclass__" (r 346),
 bX,
 z0,
 tu #[(sv "size" 678),(sv "part" 679)],
 bX,
 fu (st 35) "many_of",
 cf "many_of" "many_of" 675 198 2 351 680,
 ff (st 35) "many_of" "treepool.shape" 613 356 3,
 bX,
 z0]
noncomputable def LX(P:Params):List Obj:= [
 tu #[(sv "shape" 692)],
 bX,
 fu (st 39) "slot_sectors",
 cf "slot_sectors" "slot_sectors" 689 203 1 358 693,
 ff (st 39) "slot_sectors" "treepool.labels" 683 363 3,
 bX,
 z0,
 tu #[(sv "shape" 699)],
 bX,
 fu (st 40) "config_sectors",
 cf "config_sectors" "config_sectors" 696 205 1 365 700,
 ff (st 40) "config_sectors" "treepool.labels" 683 370 3,
 bX,
 z0,
 tu #[(sv "shape" 706)],
 bX,
 fu (st 41) "label_sectors",
 cf "label_sectors" "label_sectors" 703 207 1 372 707,
 ff (st 41) "label_sectors" "treepool.labels" 683 377 3,
 bX,
 z0,
 tu #[(sv "disk" 713),(sv "shape" 714)],
 bX,
 fu (st 42) "label_begins",
 cf "label_begins" "label_begins" 710 209 2 379 715,
 ff (st 42) "label_begins" "treepool.labels" 683 384 3,
 bX,
 z0,
 fu (st 43) "part_sum",
 cg "part_sum" "part_sum" 718 211 1 3 386 true 181 [(r 387),.none,.none,.none,(r 388)] 721,
 ff (st 43) "part_sum" "treepool.labels" 683 389 3,
 bX,
 z0,
 tu #[(sv "shape" 727),(sv "octets" 728),(sv "size" 729),(sv "rest" 730)],
 bX,
 fu (st 44) "config_part",
 cf "config_part" "config_part" 724 215 2 391 731,
 ff (st 44) "config_part" "treepool.labels" 683 396 3,
 bX,
 z0]
noncomputable def acD(P:Params):List Obj:= [
 tu #[(sv "part" 737),(sv "end" 738)],
 bX,
 fu (st 45) "config_in",
 cf "config_in" "config_in" 734 221 1 398 739,
 ff (st 45) "config_in" "treepool.labels" 683 403 3,
 bX,
 z0,
 tu #[(sv "disk" 745),(sv "shape" 746),(sv "octets" 747),(sv "part" 748),(sv "begin" 749)],
 bX,
 fu (st 46) "put_config",
 cf "put_config" "put_config" 742 226 3 405 750,
 ff (st 46) "put_config" "treepool.labels" 683 410 3,
 bX,
 z0,
 tu #[(sv "disk" 756),(sv "shape" 757),(sv "begin" 758),(sv "part" 759),(sv "found" 760)],
 bX,
 fu (st 47) "read_config",
 cf "read_config" "read_config" 753 230 2 412 761,
 ff (st 47) "read_config" "treepool.labels" 683 417 3,
 bX,
 z0,
 tu #[(sv "guid" 771),(sv "config" 772)],
 bX,
 fu (st 50) "label_octets",
 cf "label_octets" "label_octets" 768 239 2 419 773,
 ff (st 50) "label_octets" "treepool.poolmake" 764 424 3,
 bX,
 z0,
 tu #[(sv "disks" 779),(sv "config" 780),(sv "shape" 781),(sv "guid" 782)],
 bX,
 fu (st 51) "write_labels",
 cf "write_labels" "write_labels" 776 241 3 426 783,
 ff (st 51) "write_labels" "treepool.poolmake" 764 431 3,
 bX,
 bf "type.__prepare__" (.type "type"),
 di #[k P "__module__" 795 (sv "treepool.disks" 786),k P "__qualname__" 797 (sv "Disk" 796),k P "__firstlineno__" 799 (.int 246 798),k P "__init__" 808 (r 446),k P "sectors" 815 (r 453),k P "want" 824 (r 460),k P "read" 837 (r 467),k P "write" 848 (r 474),k P "put" 857 (r 481),k P "flush" 866 (r 488),k P "pending" 873 (r 495),k P "crash" 881 (r 502),k P "crash_after" 889 (r 509),k P "harm" 899 (r 516),k P "copy_to" 907 (r 523),k P "__static_attributes__" 914 (r 524)] 16,
 bX,
 zf #[(i0 248),(i0 4),(r 445),(i0 256),(i0 4),(r 452),(i0 259),(i0 4),(r 459),(i0 263),(i0 4),(r 466),(i0 275),(i0 4),(r 473),(i0 287),(i0 4),(r 480),(i0 290),(i0 4),(r 487),(i0 298),(i0 4),(r 494),(i0 301),(i0 4),(r 501),(i0 304),(i0 4),(r 508),(i0 307),(i0 4),(r 515),(i0 313),(i0 4),(r 522)],
 cm "Disk" "Disk" 790 246 436 181 793,
 fm 438 3 435 "treepool.disks" 786]
noncomputable def acE(P:Params):List Obj:= [
 bX,
 z0,
 tu #[(sv "self" 803),(sv "sectors" 804),(sv "shape" 805)],
 bX,
 fu (fi 53 0) "Disk.__init__",
 cf "__init__" "Disk.__init__" 800 248 3 440 806,
 ff (fi 53 0) "Disk.__init__" "treepool.disks" 786 445 3,
 bX,
 z0,
 tu #[(sv "self" 812)],
 bX,
 fu (fi 53 1) "Disk.sectors",
 cf "sectors" "Disk.sectors" 809 256 1 447 813,
 ff (fi 53 1) "Disk.sectors" "treepool.disks" 786 452 3,
 bX,
 z0,
 tu #[(sv "self" 819),(sv "sector" 820),(sv "many" 821)],
 bX,
 fu (fi 53 2) "Disk.want",
 cf "want" "Disk.want" 816 259 3 454 822,
 ff (fi 53 2) "Disk.want" "treepool.disks" 786 459 3,
 bX,
 z0,
 tu #[(sv "self" 828),(sv "sector" 829),(sv "many" 830),(sv "found" 831),(sv "place" 832),(sv "octets" 833),(sv "at" 834)],
 bX,
 fu (fi 53 3) "Disk.read",
 cf "read" "Disk.read" 825 263 3 461 835,
 ff (fi 53 3) "Disk.read" "treepool.disks" 786 466 3,
 bX,
 z0,
 tu #[(sv "self" 841),(sv "sector" 842),(sv "octets" 843),(sv "many" 844),(sv "place" 845)],
 bX,
 fu (fi 53 4) "Disk.write",
 cf "write" "Disk.write" 838 275 3 468 846,
 ff (fi 53 4) "Disk.write" "treepool.disks" 786 473 3,
 bX,
 z0,
 tu #[(sv "self" 852),(sv "sector" 853),(sv "octets" 854)],
 bX,
 fu (fi 53 5) "Disk.put"]
noncomputable def acF(P:Params):List Obj:= [
 cf "put" "Disk.put" 849 287 3 475 855,
 ff (fi 53 5) "Disk.put" "treepool.disks" 786 480 3,
 bX,
 z0,
 tu #[(sv "self" 861),(sv "sector" 862),(sv "octets" 863)],
 bX,
 fu (fi 53 6) "Disk.flush",
 cf "flush" "Disk.flush" 858 290 1 482 864,
 ff (fi 53 6) "Disk.flush" "treepool.disks" 786 487 3,
 bX,
 z0,
 tu #[(sv "self" 870)],
 bX,
 fu (fi 53 7) "Disk.pending",
 cf "pending" "Disk.pending" 867 298 1 489 871,
 ff (fi 53 7) "Disk.pending" "treepool.disks" 786 494 3,
 bX,
 z0,
 tu #[(sv "self" 877),(sv "kept" 878)],
 bX,
 fu (fi 53 8) "Disk.crash",
 cf "crash" "Disk.crash" 874 301 2 496 879,
 ff (fi 53 8) "Disk.crash" "treepool.disks" 786 501 3,
 bX,
 z0,
 tu #[(sv "self" 885),(sv "many" 886)],
 bX,
 fu (fi 53 9) "Disk.crash_after",
 cf "crash_after" "Disk.crash_after" 882 304 2 503 887,
 ff (fi 53 9) "Disk.crash_after" "treepool.disks" 786 508 3,
 bX,
 z0,
 tu #[(sv "self" 893),(sv "sector" 894),(sv "at" 895),(sv "octet" 896)],
 bX,
 fu (fi 53 10) "Disk.harm",
 cf "harm" "Disk.harm" 890 307 4 510 897,
 ff (fi 53 10) "Disk.harm" "treepool.disks" 786 515 3,
 bX,
 z0,
 tu #[(sv "self" 903),(sv "other" 904)]]
noncomputable def acG(P:Params):List Obj:= [
 bX,
 fu (fi 53 11) "Disk.copy_to",
 cf "copy_to" "Disk.copy_to" 900 313 2 517 905,
 ff (fi 53 11) "Disk.copy_to" "treepool.disks" 786 522 3,
 tu #[(sv "is_out" 908),(sv "octets" 909),(sv "reads" 910),(sv "sector" 911),(sv "waiting" 912),(sv "writes" 913)],
 di #[k P "__module__" 795 (sv "treepool.disks" 786),k P "__firstlineno__" 799 (.int 246 798),k P "__init__" 808 (r 446),k P "sectors" 815 (r 453),k P "want" 824 (r 460),k P "read" 837 (r 467),k P "write" 848 (r 474),k P "put" 857 (r 481),k P "flush" 866 (r 488),k P "pending" 873 (r 495),k P "crash" 881 (r 502),k P "crash_after" 889 (r 509),k P "harm" 899 (r 516),k P "copy_to" 907 (r 523),k P "__static_attributes__" 914 (r 524),k P "__dict__" 916 (r 527),k P "__weakref__" 918 (r 528),k P "__doc__" 919 .none] 4,
 ⟨(.type "type"),none,.cls ⟨"Disk", [(.type "object")], [(r 526),(.type "object")],525,"Disk",true, [], [],false,none,false⟩, #[none,none,some (sv "Disk" 788),some (sv "Disk" 796),some (.builtin "object.__new__"),some (.bool true)]⟩,
 ⟨(.type "getset_descriptor"),none,.fields #[(sv "__dict__" 915),(r 526),(.builtin "function.__dict__"),(.builtin "function.__dict__#set")], #[]⟩,
 ⟨(.type "getset_descriptor"),none,.fields #[(sv "__weakref__" 917),(r 526),(.builtin "ExceptionGroup.__weakref__"),.none], #[]⟩,
 ⟨(.type "super"),none,.fields #[(r 526),(r 526),(r 526)], #[]⟩,
 bf "object.__init_subclass__" (r 526),
 bX,
 z0,
 fu (st 55) "found_disks",
 cg "found_disks" "found_disks" 924 316 2 3 531 true 181 [(r 532),.none,.none,.none,(r 533)] 927,
 ff (st 55) "found_disks" "treepool.poolopen" 922 534 3,
 bX,
 z0,
 tu #[(sv "script" 935),(sv "at" 936)],
 bX,
 fu (st 57) "_law_cell",
 cf "_law_cell" "_law_cell" 932 334 2 536 937,
 ff (st 57) "_law_cell" "law_pb0586_01" 930 541 3,
 bX,
 z0,
 fu (st 58) "_law_plans",
 cg "_law_plans" "_law_plans" 940 336 2 3 543 true 181 [(r 544),.none,.none,.none,(r 545)] 943,
 ff (st 58) "_law_plans" "law_pb0586_01" 930 546 3,
 bX,
 z0,
 tu #[(sv "script" 949),(sv "a" 950),(sv "b" 951),(sv "c" 952),(sv "first" 953),(sv "second" 954)],
 bX,
 fu (st 59) "_law_configs",
 cf "_law_configs" "_law_configs" 946 341 1 548 955,
 ff (st 59) "_law_configs" "law_pb0586_01" 930 553 3,
 bX,
 z0,
 tu #[(sv "disk" 961),(sv "begin" 962),(sv "at" 963),(sv "step" 964),(sv "place" 965)],
 bX,
 fu (st 60) "_law_harm"]
noncomputable def acH(P:Params):List Obj:= [
 cf "_law_harm" "_law_harm" 958 346 4 555 966,
 ff (st 60) "_law_harm" "law_pb0586_01" 930 560 3,
 bX,
 z0,
 tu #[(sv "shape" 972),(sv "configs" 973),(sv "x" 974),(sv "disk" 975),(sv "which" 976),(sv "number" 977),(sv "config" 978),(sv "y" 979),(sv "end" 980),(sv "at" 981),(sv "step" 982)],
 bX,
 fu (st 61) "_law_disk",
 cf "_law_disk" "_law_disk" 969 349 3 562 983,
 ff (st 61) "_law_disk" "law_pb0586_01" 930 567 3,
 bX,
 z0,
 tu #[(sv "disk" 989),(sv "shape" 990),(sv "octets" 991)],
 bX,
 fu (st 62) "_law_told",
 cf "_law_told" "_law_told" 986 362 2 569 992,
 ff (st 62) "_law_told" "law_pb0586_01" 930 574 3,
 bX,
 z0,
 fu (st 63) "law",
 cg "law" "law" 995 365 1 3 576 true 181 [(r 577),.none,.none,.none,(r 578)] 998,
 ff (st 63) "law" "law_pb0586_01" 930 579 3]
noncomputable def HL(P:Params):Heap:=⟨⟨(hl0 P++(Kd P++(Cw P++(TR P++(hl4 P++(hl5 P++(hl6 P++(hl7 P++(hl8 P++(LX P++(acD P++(acE P++(acF P++(acG P++(acH P)))))))))))))))⟩,(boot_heap P).life⟩
end
section
set_option maxHeartbeats 8000000
noncomputable abbrev bT:List Stmt:=behindTheImports PP
noncomputable abbrev e0:Env:= {scope:=PP.main.scope,locals:=mainNs,globals:=mainNs,cells:= [],code:= .ref 13,frame:=some 14}
noncomputable abbrev cT:Code:= .body bT e0
noncomputable abbrev pz:Pos:=⟨0,0,0,0⟩
noncomputable def HB(P:Params)(n:Nat)(c:List (Nat×Obj)):Heap:=⟨⟨c.foldl (fun l x=>l.set x.1 x.2) ((HL P).objs.toList.take n)⟩,(boot_heap P).life⟩
noncomputable abbrev Sd(h:Heap)(t:Nat)(os:OsState):Shared:= {heap:=h,toks:=t,os:=os}
noncomputable abbrev an:Option Value:=some (.ref 6)
noncomputable abbrev tF:List Frame:= [topFrame pz]
noncomputable def B0(P:Params):Heap:=HB P 15 [(2,⟨.none,none,.dict #[] 0, #[]⟩),(3,⟨(.type "dict"),none,.dict #[k P "__name__" 165 (sv "__main__" 164),k P "__doc__" 166 .none,k P "__package__" 167 .none,k P "__loader__" 168 (.builtin "__main__.__loader__#opaque"),k P "__spec__" 169 .none,k P "__annotations__" 170 (r 6),k P "__builtins__" 171 (r 4),k P "__file__" 173 (sv "/claim/cut.py" 172),k P "__cached__" 174 .none] 9, #[]⟩),(12,⟨.none,none,.fields #[], #[]⟩)]
noncomputable abbrev S0(w:World)(os:OsState):Shared:=Sd (B0 w.params) 187 os
noncomputable def B1(P:Params):Heap:=HB P 78 [(3,⟨(.type "dict"),none,.dict #[k P "__name__" 165 (sv "treepool.faults" 194),k P "__doc__" 166 .none,k P "__package__" 167 .none,k P "__loader__" 168 (.builtin "__main__.__loader__#opaque"),k P "__spec__" 169 .none,k P "__annotations__" 170 (r 6),k P "__builtins__" 171 (r 4),k P "__file__" 173 (sv "/claim/cut.py" 172),k P "__cached__" 174 .none,k P "_wall" 193 (r 21),k P "PoolFault" 224 (r 38),k P "Corrupt" 240 (r 51),k P "Misused" 256 (r 63),k P "Unopened" 272 (r 75)] 14, #[]⟩),(12,⟨.none,none,.fields #[(.int 1 0),(.int 0 0),(r 20),(.int 5 0),(.int 0 0),(r 27),(.int 10 0),(.int 0 0),(r 47),(.int 12 0),(.int 0 0),(r 59),(.int 14 0),(.int 0 0),(r 71)], #[]⟩)]
noncomputable abbrev q1:Pos:=⟨14,0,15,8⟩
noncomputable abbrev S1(w:World)(os:OsState):Shared:=Sd (B1 w.params) 273 os
noncomputable def B2(P:Params):Heap:=HB P 197 [(3,⟨(.type "dict"),none,.dict #[k P "__name__" 165 (sv "treepool.octets" 273),k P "__doc__" 166 .none,k P "__package__" 167 .none,k P "__loader__" 168 (.builtin "__main__.__loader__#opaque"),k P "__spec__" 169 .none,k P "__annotations__" 170 (r 6),k P "__builtins__" 171 (r 4),k P "__file__" 173 (sv "/claim/cut.py" 172),k P "__cached__" 174 .none,k P "_wall" 193 (r 21),k P "PoolFault" 224 (r 38),k P "Corrupt" 240 (r 51),k P "Misused" 256 (r 63),k P "Unopened" 272 (r 75),k P "number_of" 280 (r 82),k P "octets_of" 286 (r 87),k P "text_octets" 292 (r 92),k P "octets_text" 298 (r 97),k P "Sink" 359 (r 142),k P "Cursor" 422 (r 192)] 20, #[]⟩),(12,⟨.none,none,.fields #[(.int 1 0),(.int 0 0),(r 20),(.int 5 0),(.int 0 0),(r 27),(.int 10 0),(.int 0 0),(r 47),(.int 12 0),(.int 0 0),(r 59),(.int 14 0),(.int 0 0),(r 71),(.int 17 0),(.int 0 0),(r 81),(.int 19 0),(.int 0 0),(r 86),(.int 23 0),(.int 0 0),(r 91),(.int 28 0),(.int 0 0),(r 96),(.int 32 0),(.int 0 0),(r 103),(.int 50 0),(.int 0 0),(r 152)], #[]⟩)]
noncomputable abbrev q2:Pos:=⟨50,0,70,53⟩
noncomputable abbrev S2(w:World)(os:OsState):Shared:=Sd (B2 w.params) 423 os
noncomputable def B3(P:Params):Heap:=HB P 329 [(3,⟨(.type "dict"),none,.dict #[k P "__name__" 165 (sv "treepool.shape" 613),k P "__doc__" 166 .none,k P "__package__" 167 .none,k P "__loader__" 168 (.builtin "__main__.__loader__#opaque"),k P "__spec__" 169 .none,k P "__annotations__" 170 (r 6),k P "__builtins__" 171 (r 4),k P "__file__" 173 (sv "/claim/cut.py" 172),k P "__cached__" 174 .none,k P "_wall" 193 (r 21),k P "PoolFault" 224 (r 38),k P "Corrupt" 240 (r 51),k P "Misused" 256 (r 63),k P "Unopened" 272 (r 75),k P "number_of" 280 (r 82),k P "octets_of" 286 (r 87),k P "text_octets" 292 (r 92),k P "octets_text" 298 (r 97),k P "Sink" 359 (r 142),k P "Cursor" 422 (r 192),k P "padded" 430 (r 203),k P "MAGIC" 434 (.int 1953654117 433),k P "VERSION" 436 (.int 1 435),k P "MOST_PARITY" 438 (.int 3 437),k P "MOST_CHILDREN" 440 (.int 32 439),k P "NUMBERS" 444 (.int 4294967296 443),k P "Node" 486 (r 227),k P "Config" 528 (r 254),k P "sorts" 534 (r 265),k P "number_of_disks" 544 (r 272),k P "disk_node" 551 (r 279),k P "node_of" 557 (r 284),k P "disks_of" 566 (r 291),k P "config_of_plans" 573 (r 297),k P "all_disks" 582 (r 304),k P "put_node" 591 (r 311),k P "config_octets" 600 (r 318),k P "read_node" 606 (r 323),k P "config_of" 612 (r 328)] 39, #[]⟩),(12,⟨.none,none,.fields #[(.int 1 0),(.int 0 0),(r 20),(.int 5 0),(.int 0 0),(r 27),(.int 10 0),(.int 0 0),(r 47),(.int 12 0),(.int 0 0),(r 59),(.int 14 0),(.int 0 0),(r 71),(.int 17 0),(.int 0 0),(r 81),(.int 19 0),(.int 0 0),(r 86),(.int 23 0),(.int 0 0),(r 91),(.int 28 0),(.int 0 0),(r 96),(.int 32 0),(.int 0 0),(r 103),(.int 50 0),(.int 0 0),(r 152),(.int 71 0),(.int 0 0),(r 202),(.int 81 0),(.int 0 0),(r 209),(.int 91 0),(.int 0 0),(r 237),(.int 101 0),(.int 0 0),(r 264),(.int 103 0),(.int 0 0),(r 271),(.int 108 0),(.int 0 0),(r 278),(.int 114 0),(.int 0 0),(r 283),(.int 127 0),(.int 0 0),(r 290),(.int 134 0),(.int 0 0),(r 296),(.int 142 0),(.int 0 0),(r 303),(.int 147 0),(.int 0 0),(r 310),(.int 154 0),(.int 0 0),(r 317),(.int 165 0),(.int 0 0),(r 322),(.int 175 0),(.int 0 0),(r 327)], #[]⟩)]
noncomputable abbrev q3:Pos:=⟨183,0,183,8⟩
noncomputable abbrev S3(w:World)(os:OsState):Shared:=Sd (B3 w.params) 615 os
noncomputable def B4(P:Params):Heap:=HB P 433 [(3,⟨(.type "dict"),none,.dict #[k P "__name__" 165 (sv "treepool.disks" 786),k P "__doc__" 166 .none,k P "__package__" 167 .none,k P "__loader__" 168 (.builtin "__main__.__loader__#opaque"),k P "__spec__" 169 .none,k P "__annotations__" 170 (r 6),k P "__builtins__" 171 (r 4),k P "__file__" 173 (sv "/claim/cut.py" 172),k P "__cached__" 174 .none,k P "_wall" 193 (r 21),k P "PoolFault" 224 (r 38),k P "Corrupt" 240 (r 51),k P "Misused" 256 (r 63),k P "Unopened" 272 (r 75),k P "number_of" 280 (r 82),k P "octets_of" 286 (r 87),k P "text_octets" 292 (r 92),k P "octets_text" 298 (r 97),k P "Sink" 359 (r 142),k P "Cursor" 422 (r 192),k P "padded" 430 (r 203),k P "MAGIC" 434 (.int 1953654117 433),k P "VERSION" 436 (.int 1 435),k P "MOST_PARITY" 438 (.int 3 437),k P "MOST_CHILDREN" 440 (.int 32 439),k P "NUMBERS" 444 (.int 4294967296 443),k P "Node" 486 (r 227),k P "Config" 528 (r 254),k P "sorts" 534 (r 265),k P "number_of_disks" 544 (r 272),k P "disk_node" 551 (r 279),k P "node_of" 557 (r 284),k P "disks_of" 566 (r 291),k P "config_of_plans" 573 (r 297),k P "all_disks" 582 (r 304),k P "put_node" 591 (r 311),k P "config_octets" 600 (r 318),k P "read_node" 606 (r 323),k P "config_of" 612 (r 328),k P "Shape" 674 (r 346),k P "many_of" 682 (r 357),k P "SUM" 686 (.int 8 685),k P "LENGTH" 688 (.int 4 687),k P "slot_sectors" 695 (r 364),k P "config_sectors" 702 (r 371),k P "label_sectors" 709 (r 378),k P "label_begins" 717 (r 385),k P "part_sum" 723 (r 390),k P "config_part" 733 (r 397),k P "config_in" 741 (r 404),k P "put_config" 752 (r 411),k P "read_config" 763 (r 418),k P "GUID" 767 (.int 4 766),k P "label_octets" 775 (r 425),k P "write_labels" 785 (r 432)] 55, #[]⟩),(12,⟨.none,none,.fields #[(.int 1 0),(.int 0 0),(r 20),(.int 5 0),(.int 0 0),(r 27),(.int 10 0),(.int 0 0),(r 47),(.int 12 0),(.int 0 0),(r 59),(.int 14 0),(.int 0 0),(r 71),(.int 17 0),(.int 0 0),(r 81),(.int 19 0),(.int 0 0),(r 86),(.int 23 0),(.int 0 0),(r 91),(.int 28 0),(.int 0 0),(r 96),(.int 32 0),(.int 0 0),(r 103),(.int 50 0),(.int 0 0),(r 152),(.int 71 0),(.int 0 0),(r 202),(.int 81 0),(.int 0 0),(r 209),(.int 91 0),(.int 0 0),(r 237),(.int 101 0),(.int 0 0),(r 264),(.int 103 0),(.int 0 0),(r 271),(.int 108 0),(.int 0 0),(r 278),(.int 114 0),(.int 0 0),(r 283),(.int 127 0),(.int 0 0),(r 290),(.int 134 0),(.int 0 0),(r 296),(.int 142 0),(.int 0 0),(r 303),(.int 147 0),(.int 0 0),(r 310),(.int 154 0),(.int 0 0),(r 317),(.int 165 0),(.int 0 0),(r 322),(.int 175 0),(.int 0 0),(r 327),(.int 184 0),(.int 0 0),(r 334),(.int 198 0),(.int 0 0),(r 356),(.int 203 0),(.int 0 0),(r 363),(.int 205 0),(.int 0 0),(r 370),(.int 207 0),(.int 0 0),(r 377),(.int 209 0),(.int 0 0),(r 384),(.int 211 0),(.int 0 0),(r 389),(.int 215 0),(.int 0 0),(r 396),(.int 221 0),(.int 0 0),(r 403),(.int 226 0),(.int 0 0),(r 410),(.int 230 0),(.int 0 0),(r 417),(.int 239 0),(.int 0 0),(r 424),(.int 241 0),(.int 0 0),(r 431)], #[]⟩)]
noncomputable abbrev q4:Pos:=⟨245,0,245,8⟩
noncomputable abbrev S4(w:World)(os:OsState):Shared:=Sd (B4 w.params) 788 os
noncomputable abbrev B5(P:Params):Heap:=HL P
noncomputable abbrev q5:Pos:=⟨365,0,388,62⟩
noncomputable abbrev S5(w:World)(os:OsState):Shared:=Sd (B5 w.params) 1001 os
noncomputable abbrev l1:List Stmt:=(bT.drop 0).take 6
noncomputable abbrev l2:List Stmt:=(bT.drop 6).take 7
noncomputable abbrev l3:List Stmt:=(bT.drop 13).take 21
noncomputable abbrev l4:List Stmt:=(bT.drop 34).take 19
noncomputable abbrev l5:List Stmt:=(bT.drop 53).take 11
theorem TU:bT=l1++(l2++(l3++(l4++(l5++ [])))):=by kernel_rfl
theorem g0(w:World)(os:OsState):topGo treeTable PP w 11 an 12 ⟨boot_heap w.params, #[],boot_drawn,boot_toks,os⟩ (topStub PP)=some (S0 w os,⟨denote treeTable cT,cT,pz,tF⟩):=by kernel_rfl
theorem gb(w:World)(os:OsState):segRun treeTable PP w 11 an 1 1 (S0 w os) (blockOf bT e0 cT pz tF)=some (.next,S0 w os,cT,pz):=by kernel_rfl
theorem p1(w:World)(os:OsState):segRun treeTable PP w 11 an 1 906 (S0 w os) (piecesOf l1 e0 cT pz tF)=some (.next,S1 w os,cT,q1):=by kernel_rfl
theorem p2(w:World)(os:OsState):segRun treeTable PP w 11 an 1 817 (S1 w os) (piecesOf l2 e0 cT q1 tF)=some (.next,S2 w os,cT,q2):=by kernel_rfl
theorem p3(w:World)(os:OsState):segRun treeTable PP w 11 an 1 937 (S2 w os) (piecesOf l3 e0 cT q2 tF)=some (.next,S3 w os,cT,q3):=by kernel_rfl
theorem p4(w:World)(os:OsState):segRun treeTable PP w 11 an 1 672 (S3 w os) (piecesOf l4 e0 cT q3 tF)=some (.next,S4 w os,cT,q4):=by kernel_rfl
theorem p5(w:World)(os:OsState):segRun treeTable PP w 11 an 1 855 (S4 w os) (piecesOf l5 e0 cT q4 tF)=some (.next,S5 w os,cT,q5):=by kernel_rfl
theorem gf(w:World)(os:OsState):topRun treeTable PP w 11 an 2 (S5 w os) ⟨doneF .next,cT,q5,tF⟩=some (S5 w os):=by kernel_rfl
theorem LZ(w:World)(os:OsState):topRun treeTable PP w 11 an (12+(1+(906+(817+(937+(672+(855+(2)))))))) ⟨boot_heap w.params, #[],boot_drawn,boot_toks,os⟩ (topStub PP)=some (S5 w os):=
 go_top (g0 w os) (piece_block (gb w os) ((congrArg (fun l=>topRun treeTable PP w 11 an _ (S0 w os) (restOf l e0 cT pz tF)) TU).trans (piece_app (p1 w os) (piece_app (p2 w os) (piece_app (p3 w os) (piece_app (p4 w os) (piece_app (p5 w os) (piece_nil (gf w os)))))))))
end
section
set_option maxHeartbeats 8000000
noncomputable abbrev yM:List Addr:= [2,3,15,17,18,20,21,22,29,31,32,34,35,36,37,38,39,42,49,50,51,54,61,62,63,66,73,74,75,78,81,82,83,86,87,88,91,92,93,96,97,105,107,108,110,111,112,114,115,117,118,119,121,122,124,125,126,128,129,131,132,133,135,136,138,139,140,141,142,143,144,154,155,157,158,160,161,162,164,165,167,168,169,171,172,174,175,176,178,179,181,182,183,185,186,188,189,190,191,192,193,194,197,199,200,202,203,211,212,213,215,216,218,219,220,223,224,225,226,227,228,229,239,240,242,243,245,246,247,250,251,252,253,254,255,256,259,261,262,264,265,266,268,269,271,272,273,275,276,278,279,280,283,284,285,287,288,290,291,292,293,296,297,298,300,301,303,304,305,307,308,310,311,312,314,315,317,318,319,322,323,324,327,328,336,337,339,340,342,343,344,345,346,347,348,351,353,354,356,357,358,360,361,363,364,365,367,368,370,371,372,374,375,377,378,379,381,382,384,385,386,389,390,391,393,394,396,397,398,400,401,403,404,405,407,408,410,411,412,414,415,417,418,419,421,422,424,425,426,428,429,431,432,440,442,443,445,446,447,449,450,452,453,454,456,457,459,460,461,463,464,466,467,468,470,471,473,474,475,477,478,480,481,482,484,485,487,488,489,491,492,494,495,496,498,499,501,502,503,505,506,508,509,510,512,513,515,516,517,519,520,522,523,524,525,526,527,528,531,534,535,536,538,539,541,542,543,546,547,548,550,551,553,554,555,557,558,560,561,562,564,565,567,568,569,571,572,574,575,576,579,580]
noncomputable abbrev KL(P:Params):Frag:=yM.map fun a=>(a,(HL P).objs.toList.getD a default)
theorem Kf(P:Params):yM=(KL P).map (·.1):=by kernel_rfl
noncomputable abbrev vY:=kHook KL yM Kf
noncomputable abbrev yN:Program:=view PP [0,2,3,4,5,7,8,9,10,11,12,13,15,16,17,18,19,20,21,22,23,24,25,26,28,29,30,31,32,34,35,37,38,39,40,41,42,43,44,45,46,47,49,50,51,53,55,57,58,59,60,61,62,63]
noncomputable abbrev uO:List Str:= [Str.ofString "NUMBERS",Str.ofString "Node",Str.ofString "config_of_plans"]
noncomputable abbrev acK(s:Shared):Bool:=xlAt yN [(Str.ofString "NUMBERS",WData.int 4294967296)] s&&recOk Challenge.rw_pb0586_01.row.records s
theorem TV:Challenge.rw_pb0586_01.wellSaid=true:=by kernel_rfl
theorem h40:(chainsOk yN&&opensWell Challenge.rw_pb0586_01.row.prog&&(frees Challenge.rw_pb0586_01.row.toRowW&&Challenge.rw_pb0586_01.row.within.isEmpty))=true:=by kernel_rfl
theorem h41:Challenge.rw_pb0586_01.row.prog.tablesWhole=true:=by kernel_rfl
theorem h42:opening PP=plainProg PP.main.scope.names:=by kernel_rfl
theorem h43:∀s:Shared,fenceModules? PP s=some s:=fun s=>by kernel_rfl
theorem acL(w:World):((boot_heap w.params).isNs mainGlobals&&(#[]:Array GenState).size==0,(boot_heap w.params).objs.size,(boot_heap w.params).nsMap mainGlobals (Str.ofString "__annotations__"))=(true,11,some (Value.ref 6)):=by kernel_rfl
theorem acM:Challenge.rw_pb0586_01.row.claim.pre [WData.list []]=true:=by kernel_rfl
theorem acN:(WData.layableAll [WData.list []]&&Challenge.rw_pb0586_01.row.returnsAt [WData.list []])=true:=by kernel_rfl
theorem Pq(w:World)(os:OsState):(staticsOk (importedModules PP.main.body) (boot_heap w.params) (HL w.params)&&namesBound PP (HL w.params)&&gensDone (S5 w os)&&laidKept (boot_heap w.params) (HL w.params))=true:=by kernel_rfl
theorem Pr(w:World)(os:OsState):openSeen yN uO (importedModules PP.main.body) acK true (S5 w os)=openGood yN uO:=by kernel_rfl
theorem Pt(w:World)(os:OsState):vY.obs (S5 w os)=vY.val w:=by kernel_rfl
end
section
variable {c:Code}{R:Result->Shared->Prop}{Q:Unit->Shared->Prop}
noncomputable def pT:List String:= ["bytearray.__contains__","bytearray.__mod__","bytearray.__rmod__","_struct.pack_into.held","bytearray.find.held"]++Builtin.Bytes.decodersThatHold
set_option backward.match.sparseCases false in
noncomputable def jY:Code->Bool
 | .builtin id _=> !pT.contains id
 |_=>true
structure Cx (Γ:PySem.Ctx):Prop where
 code:jY Γ.code=true
 below:∀cp∈Γ.below,jY cp.1=true
def ay{α:Type}(s:Shared)(E:Value->Shared->Prop)(A:Around)(M:Model)(Q:α->Shared->Prop)(t:Sem α):Prop:=
 ∀Γ p,Γ.In A->Cx Γ->Sem.wp M Γ t (fun a ψ s'=>Q a s') (fun e ψ s'=>E e s') p s
def cQ(M:Model)(A:Around)(c:Code)(R:Result->Shared->Prop)(s:Shared):Prop:=
 ∀Γ p,Γ.code=c->Γ.Below A->(∀cp∈Γ.below,jY cp.1=true)->wpCode M Γ R p s
section
variable {α β:Type}{M:Model}{A:Around}{E:Value->Shared->Prop}{s:Shared}
theorem aj{t:Sem α}{Q:α->Shared->Prop}(h:wpAny M A t Q E s):ay s E A M Q t:=fun Γ p hΓ ψ=>h Γ p hΓ
theorem Kg(h:codeAny M A c R s):cQ M A c R s:=fun Γ p hc hΓ ψ=>h Γ p hc hΓ
theorem ax{a:α}{Q:α->Shared->Prop}(h:Q a s):ay s E A M Q (pure a):=aj (cP h)
theorem au{t:Sem α}{Q Q':α->Shared->Prop}{E':Value->Shared->Prop}(h:ay s E A M Q t)(hQ:∀a s,Q a s->Q' a s)(hE:∀e s,E e s->E' e s):ay s E' A M Q' t:=
 fun Γ p hΓ hc=>Sem.wp_mono M Γ t (fun a ψ s=>hQ a s) (fun e ψ s=>hE e s) p s (h Γ p hΓ hc)
theorem yO{t:Sem α}{Q:α->Shared->Prop}(h:∀(Q':α->Shared->Prop) (E':Value->Shared->Prop),(∀a s,Q a s->Q' a s)->(∀e s,E e s->E' e s)->ay s E' A M Q' t):ay s E A M Q t:=h Q E (fun ψ ψ q=>q) fun ψ ψ q=>q
theorem Kh{t:Sem α}{Q:α->Shared->Prop}(h:∀Q':α->Shared->Prop,(∀a s,Q a s->Q' a s)->ay s E A M Q' t):ay s E A M Q t:=h Q fun ψ ψ q=>q
theorem af{m:Sem α}{f:α->Sem β}{Q:β->Shared->Prop}(h:ay s E A M (fun a s'=>ay s' E A M Q (f a)) m):ay s E A M Q (m >>= f):=fun Γ p hΓ hc=>by
 rw [Sem.wp_bind'];exact Sem.wp_mono M Γ m (fun a p' s' h'=>h' Γ p' hΓ hc) (fun ψ ψ ψ h'=>h') p s (h Γ p hΓ hc)
theorem kJ{m:Sem α}{k:Value->Sem Unit}{Q:α->Shared->Prop}(h:ay s (fun e s'=>ay s' E A M (fun ψ kK=>E e kK) (k e)) A M Q m):ay s E A M Q (m.onRaise k):=fun Γ p hΓ hc=>by
 rw [Sem.wp_onRaise];exact Sem.wp_mono M Γ m (fun ψ ψ ψ h'=>h') (fun e p' s' h'=>h' Γ p' hΓ hc) p s (h Γ p hΓ hc)
theorem uP{m:Sem α}{Q:Except Value α->Shared->Prop}(h:ay s (fun e=>Q (.error e)) A M (fun a=>Q (.ok a)) m):ay s E A M Q m.attempt:=fun Γ p hΓ hc=>by rw [Sem.wp_attempt];exact h Γ p hΓ hc
theorem aK{vs:List Value}{m:Sem α}{Q:α->Shared->Prop}(h:ay s E A M Q m):ay s E A M Q (holding vs m):=fun Γ p hΓ hc=>by rw [Sem.wp_holding];exact h Γ p hΓ hc
theorem kn{tag:String}(h:Q () s):ay s E A M Q (rule tag):=aj (wpAny_rule h)
theorem bx{pos:Pos}(h:Q () s):ay s E A M Q (standAt pos):=aj (wpAny_standAt h)
theorem yP(h:Q () s):ay s E A M Q point:=aj (wpAny_point h)
theorem cR{m:Sem α}{a:α}{Q:α->Shared->Prop}(e:m=pure a)(h:Q a s):ay s E A M Q m:=aj (wpAny_of_eq e h)
theorem gB{R':Result->Shared->Prop}(h:cQ M A c R s)(hR:∀r s,R r s->R' r s):cQ M A c R' s:=
 fun Γ p hc hΓ hb=>wpCode_mono hR (h Γ p hc hΓ hb)
theorem uQ{Γ:PySem.Ctx}{hd:Option Value}{p:Pos}(h:Cx Γ):∀cp∈(Γ.enter c hd p).below,jY cp.1=true:=fun cp hcp=>by
 rcases List.mem_cons.mp (show cp∈(Γ.code,p)::Γ.below from hcp) with rfl|hm
 ·exact h.code
 ·exact h.below cp hm
theorem ED{h:Option Value}{Q:Flow->Shared->Prop}(hc:cQ M (A.mark h) c (fun r s'=>match r with| .ok f=>Q f s'| .error e=>E e s') s)(hnb:h≠some byPass:=by intro x;cases x):
  ay s E A M Q (run c h):=fun Γ p hΓ fY=>by rw [Sem.wp_run];exact hc _ p rfl (hΓ.enter c h p hnb) (uQ fY)
theorem AU{Q:Value->Shared->Prop}(hc:cQ M A c (fun r s'=>match r with| .ok (.ret v)=>Q v s'| .ok _=>False| .error e=>E e s') s):
  ay s E A M Q (runValue c):=fun Γ p hΓ fY=>by rw [Sem.wp_runValue];exact hc _ p rfl (hΓ.enter c none p (by intro x;cases x)) (uQ fY)
theorem iH{f:Value}{pos:List Value}{kw:List (Str×Value)}{Q:Value->Shared->Prop}(hc:cQ M A (.call f ⟨pos,kw⟩) (fun r s'=>match r with| .ok (.ret v)=>Q v s'| .ok _=>False| .error e=>E e s') s):
  ay s E A M Q (call f pos kw):=AU hc
theorem dE(fY:jY c=true)
  (h:ay s (fun e s'=>R (.error e) s') (A.under c) M (fun fin s'=>match fin with| .done f=>R (.ok f) s'| .again c'=>c'.quiet=true/\cQ M A c' R s') (M.den c)):cQ M A c R s:=fun Γ p hc hΓ hb=>by
 rw [wpCode_iff_wp,hc];refine Sem.wp_mono M Γ _ (fun fin p' s' h'=> ?_) (fun ψ ψ ψ h'=>h') p s (h Γ p (hc▸hΓ.in) ⟨hc▸fY,hb⟩);cases fin with
 |done f=>exact h'
 |again c'=>exact⟨h'.1,h'.2 (Γ.goto c') p' rfl (hΓ.goto c') hb⟩
theorem EE(fY:jY c=true)(hq:c.quiet=true)(I:Nat->Shared->Prop)
  (turn:∀n s,I n s->ay s (fun e s'=>R (.error e) s') (A.under c) M (fun fin s'=>match fin with| .done f=>R (.ok f) s'| .again c'=>c'=c/\∃m,m<n/\I m s') (M.den c))
  (n:Nat)(h:I n s):cQ M A c R s:=by
 induction n using Nat.strongRecOn generalizing s with
 |ind n ih=>
  refine dE fY (au (turn n s h) (fun fin s' hf=> ?_) fun ψ ψ h'=>h');cases fin with
  |done f=>exact hf
  |again c'=>obtain⟨rfl,m,hm,hI⟩:=hf;exact⟨hq,ih m hm hI⟩
theorem AV{v:Value}{Q:Bool->Shared->Prop}(h:Q false s):ay s E A M Q (Builtin.Bytes.exported v):=fun Γ p hΓ hc=>by
 have hb:∀b,b=false->Q b s:=fun ψ e=>e▸h;refine hb (((Γ.code,p)::Γ.below).any _) (List.any_eq_false.mpr fun cp hm=> ?_);have h1:jY cp.1=true:=(List.mem_cons.mp hm).elim (fun e=>e▸hc.code) (hc.below cp);refine Bool.eq_false_iff.mp ?_;obtain⟨c,q⟩:=cp;clear hm hb h hc hΓ;cases c with
 |builtin id args=>
  have ne:∀x,pT.contains x=true->id≠x:=fun x hx e=>by
   have h1:(!pT.contains id)=true:=h1;rw [e,hx] at h1;exact Bool.noConfusion h1
  delta Builtin.Bytes.exported.match_1 Builtin.Bytes.exported._sparseCasesOn_1;dsimp only;refine(dif_neg (ne "bytearray.__contains__" (by decide +kernel))).trans ?_;refine(dif_neg (ne "bytearray.__mod__" (by decide +kernel))).trans ?_;refine(dif_neg (ne "bytearray.__rmod__" (by decide +kernel))).trans ?_;refine(dif_neg (ne "_struct.pack_into.held" (by decide +kernel))).trans ?_;refine(dif_neg (ne "bytearray.find.held" (by decide +kernel))).trans ?_;obtain⟨_|⟨u,l⟩,kw⟩:=args
  ·rfl
  ·refine(congrArg (Builtin.Bytes.sameRef u v&& ·) (Bool.eq_false_iff.mpr fun hx=>ne id ?_ rfl)).trans (Bool.and_false _);exact List.contains_iff_mem.mpr (List.mem_append_right _ (List.contains_iff_mem.mp hx))
 |_=>rfl
end
end
section
variable {w:World}{s:Shared}
theorem AW:Cx (⟨.builtin "claim.caller" {},none,none, [],none⟩:PySem.Ctx):=⟨by decide +kernel,fun ψ h=>nomatch h⟩
theorem CA{prog:Program}{t:Sem PySem.Fin}{R:Result->Shared->Prop}(hz:s.asleep)
  (h:ay s (fun e s'=>R (.error e) s'/\AllBare s'.gens) callerA (model prog w) (fun fin s'=>∃f,fin= .done f/\(R (.ok f) s'/\AllBare s'.gens)) t):
  ∃n r s' kK,runN (denote table) prog w n s ⟨t,.builtin "claim.caller" {},default, []⟩= .halted (outcomeOf r) s'/\
   schedN (denote table) prog w n (.single s ⟨t,.builtin "claim.caller" {},default, []⟩)= .halted (outcomeOf r) s'/\s'.forget=kK.forget/\R r kK:=by
 have h2:Sem.wp (model prog w) ⟨.builtin "claim.caller" {},none,none, [],none⟩ t (Sem.finPost (model prog w) ⟨.builtin "claim.caller" {},none,none, [],none⟩ fun r s'=>R r s'/\leftWithCleanup s'.gens=false)
   (fun e ψ s'=>R (.error e) s'/\leftWithCleanup s'.gens=false) default s:=by
  refine Sem.wp_mono _ _ t (fun fin p' s' q=> ?_) (fun e ψ s' q=>⟨q.1,leftWithCleanup_false_of_bare q.2⟩) default s (h _ default caller_in AW);obtain⟨f,rfl,q1,q2⟩:=q;exact⟨q1,leftWithCleanup_false_of_bare q2⟩
 obtain⟨n,r,s₁,s₂,a,b,c,d⟩:=wp_halts_full (M:=model prog w) (R:=R) hz h2;exact⟨n,r,s₂,s₁,b,a,c,d⟩
theorem EF{c:ClaimW}{tree:List Value->Sem PySem.Fin}{free:Addr->Prop}{gens:Prop}{kept:Heap->Prop}(hz:s.asleep)(rD:s.gens= #[])
  (TX:∀args,c.pre args=true->WData.layableAll args=true->∀ord:List DictEntry->List DictEntry,(∀l,(ord l).Perm l)->
   ∃vs s₁,layAllW c.records (classAt s.heap) w.params ord args s=some (vs,s₁)/\
    ay s₁ (fun e s'=>(c.Ends s args vs s₁ (.error e) s'/\s'.os=s.os/\kept s'.heap)/\AllBare s'.gens) callerA (model c.prog w) (fun fin s'=>∃f,fin= .done f/\((c.Ends s args vs s₁ (.ok f) s'/\s'.os=s.os/\kept s'.heap)/\AllBare s'.gens)) (tree vs)):
  c.CallFrom (fun vs=>⟨tree vs,.builtin "claim.caller" {},default, []⟩) w free gens kept s:=by
 intro args yQ EG ord Ja;refine az fun zG=> ?_;obtain⟨vs,s₁,rE,qh⟩:=TX args yQ EG ord Ja;have L2:=layAllW_rest _ _ _ rE;obtain⟨k,r,s',kK,acP,Pw,hfo,yR,Ki,CC⟩:=CA (R:=fun r s'=>c.Ends s args vs s₁ r s'/\s'.os=s.os/\kept s'.heap) (Shared.asleep_of_life L2.2.2.2 hz) qh;obtain⟨eh,_,_,eo,_⟩:=Shared.forget_eq hfo;refine zG ⟨vs,s₁,rE,k,_,s',Pw,(yR.congr eh).imp (fun h=>h.elim fun v q=>⟨v,congrArg outcomeOf q.1,q.2.1,q.2.2.1,q.2.2.2.1,fun b o y ψ=>q.2.2.2.2.1 b o y,q.2.2.2.2.2⟩)
  (fun h=>h.elim fun e h=>h.elim fun ob h=>h.elim fun cls q=>⟨e,ob,cls,congrArg outcomeOf q.1,q.2.1,q.2.2.1,q.2.2.2.1,q.2.2.2.2.1,fun b o y ψ=>q.2.2.2.2.2 b o y⟩),(fun ψ i x hx=>by rw [rD] at hx;exact nomatch hx),eh▸CC,by rw [(runN_life _ _ _ acP).trans L2.2.2.2],Shared.rest_eq (eo.trans Ki)⟩
abbrev CD(q:Program)(loose:List Str)(XP:(Str->Option Value)->Heap->Prop)(YP:World->Heap->Prop)(r:RowW)(d:DefRec)(CG:List (Str×Expr)):Prop:=
 ∀(w:World) (s₀ s₁:Shared) (mg mb:Str->Option Value),Ground q loose r.records XP w s₀ mg mb s₁.heap->YP w s₁.heap->∀(a:Addr) (o:Obj) (pm cd doc dV kV:Value),s₁.heap.get? a=some o->
  o.data= .func {docDef d.name d.params d.body d.scope pm cd doc with defaults:=dV,kwdefaults:=kV}->s₁.heap.CodeRec cd d.name->Dflts mg s₁.heap d.params CG dV kV->mg d.name=some (.ref a)->s₁.gens= #[]->
  ∀(args:List WData) (vals:List Value) (as:List Addr),r.claim.pre args=true->WData.layableAll args=true->ReadsAllW r.records (classAt s₀.heap) s₁.heap vals args as->WellAll w.params s₁.heap vals args->(∀a∈as,(a==sysModules)=false)->
   cQ (model r.prog w) callerA (.call (.ref a) ⟨vals, []⟩) (GoodWG r.claim (classAt s₀.heap) (ExcName.means s₀.heap) args s₁) s₁
theorem CH{r:OpenRow}{q:Program}{loose:List Str}{Xt:Shared->Bool}{XP:(Str->Option Value)->Heap->Prop}{α:Type}{Yf:Shared->α}{Ya:World->α}{YP:World->Heap->Prop}{d:DefRec}{CG:List (Str×Expr)}{N:Nat}
  (left:LeftO r.prog q loose Xt Yf Ya N)(hY:∀w s,Yf s=Ya w->YP w s.heap)(hYk:∀w h h',YP w h->(∀b o,h.get? b=some o->h'.get? b=some o)->YP w h')
  (hX:∀s,Xt s=true->XP (s.heap.nsMap mainGlobals) s.heap)(hXk:∀mg h h',XP mg h->(∀b o,h.get? b=some o->h'.get? b=some o)->XP mg h')
  (EH:defOf q r.name=some (d,CG))(hp:r.prog.theDef r.name=some (d.params,d.body,d.scope))(hk:kwWritten? d.params.kwonlyargs d.params.kw_defaults=some CG)(hRf:∀s,Xt s=true->RecFacts r.records s.heap)(hwr:(!r.writes||r.records.isEmpty)=true)
  (k1:r.wellSaid=true)(ok:(chainsOk q&&opensWell r.prog&&(frees r.toRowW&&r.within.isEmpty))=true)(hb:r.prog.bare)(hw:r.toRowW.promised)
  (call:CD q loose XP YP r.toRowW d CG):r.Holds:=by
 refine az fun zG=> ?_;have ok':=Bool.and_eq_true_iff.mp ok;obtain⟨hch,o1⟩:=Bool.and_eq_true_iff.mp ok'.1;obtain⟨k5,k6⟩:=Bool.and_eq_true_iff.mp ok'.2;obtain⟨T1,hu,ha,hap,hm⟩:=frees_parts k5;have hwi:r.toRowW.claim.within= []:=List.isEmpty_iff.mp k6;have hi:=ident_freeW hu ha hap;refine zG ⟨k1,hw,⟨hb,o1,by show r.toRowW.makers.map _= [];rw [hm];rfl⟩,hw.witness,fun w=>⟨(left.behind hX hch w).1,fun s' Hg=> ?_⟩⟩;refine az fun zG=> ?_;obtain⟨s₀,hf,hg0,s,hT,hz,rD,hg,vZ,y⟩:=(left.behind (XP:=fun mg h=>XP mg h/\RecFacts r.records h) (fun s hs=>⟨hX s hs,hRf s hs⟩) hch w).2 s' Hg;have G0:Ground q loose [] XP w s (s.heap.nsMap mainGlobals) (s.heap.nsMap builtinsNs) s.heap:=⟨vZ.T,vZ.B,vZ.D,vZ.TE,vZ.TD,vZ.W,vZ.X.1,vZ.cls,vZ.has,vZ.apart,vZ.once,vZ.K⟩;have RF:=vZ.X.2;have rD:s.gens= #[]:=Array.eq_empty_of_size_eq_zero (beq_iff_eq.mp rD);have G:Ground q loose r.records XP w s _ _ s.heap:=RF.ground G0;refine zG ⟨s₀,hf,hg0,s,hT,fun n hn=> ?_,RF.1,RF.2.1,EF (c:=r.toRowW.claim) (tree:=fun vs=>do match <- nsGet mainNs r.name with
   |some f=>do ret (<- PySem.call f vs)
   |none=>unsupported "claim.caller:no-such-global") hz rD fun args yQ EG ord Ja=> ?_⟩
 ·obtain rfl:n=r.name:=by split at hn <;> simp_all
  exact pinned_of_view hg G0 EH hp hk
 refine az fun zG=> ?_;obtain⟨⟨vs,s₁⟩,rE⟩:=Option.isSome_iff_exists.mp (layAllW_isSome (P:=w.params) (ord:=ord) G.has args r.args s (pre_splitW yQ).1);have keeps:=layAllW_keeps _ _ _ rE;have L2:=layAllW_rest _ _ _ rE;obtain⟨as,hrd,yS,hold⟩:=reads_layAllW Ja _ _ _ rE EG s₁.heap (fun ψ ψ e=>e);have L:Laid r.records w s s₁ args vs as:=⟨⟨ord,Ja,rE⟩,hrd,yS,hold,keeps,L2.1.trans rD,L2.2.2.1⟩;have G₁:=G.keeps hXk keeps;obtain⟨a,o,pm,cd,doc,dV,kV,h1,h2,h3,h4,h5⟩:=G₁.fn EH;have C:=call w s s₁ _ _ G₁ (hYk _ _ _ (hY w s y) keeps) a o pm cd doc dV kV h2 h3 h4 h5 (defOf_name EH▸h1) L.gens args vs as yQ EG L.reads L.well (L.low G.low);refine zG ⟨vs,s₁,rE,af (aj (wpAny_nsGet G₁.T.g ?_))⟩;rw [h1];refine af (iH (gB C fun r' s' g=> ?_));have z:=g.laid (c:=r.toRowW.claim) T1 hwi hi L;rcases g.1 with⟨v,_,_,rfl,_⟩|⟨e,_,_,rfl,_⟩
 ·exact ax ⟨_,rfl,⟨z.1,z.2.1,fun q=>⟨namesKept_of hT hg _ keeps g.2.1.old,noTable hwr q⟩⟩,z.2.2⟩
 ·exact⟨⟨z.1,z.2.1,fun q=>⟨namesKept_of hT hg _ keeps g.2.1.old,noTable hwr q⟩⟩,z.2.2⟩
end
section
set_option maxHeartbeats 4000000
theorem hdL{d:DefRec}{CG:List (Str×Expr)}(EH:defOf yN Challenge.rw_pb0586_01.row.name=some (d,CG))
  (hp:Challenge.rw_pb0586_01.row.prog.theDef Challenge.rw_pb0586_01.row.name=some (d.params,d.body,d.scope))(hk:kwWritten? d.params.kwonlyargs d.params.kw_defaults=some CG)
  (walk:CD yN uO (XL yN [(Str.ofString "NUMBERS",WData.int 4294967296)]) vY.says Challenge.rw_pb0586_01.row.toRowW d CG):Challenge.rw_pb0586_01.Holds:=
 holds_law TV fun acW=>
  CH (LeftO.of_pieces (N:=1000000) (boot_open h42 (by decide +kernel) h43) acL LZ (by decide +kernel) fun w=>funext fun os=>by rw [show(⟨HL w.params, #[],{},1001,os⟩:Shared)=S5 w os from rfl,Pq w os,Pr w os,Pt w os])
   vY.of vY.keeps (fun s e=>xl_of s (Bool.and_eq_true_iff.mp e).left) XL.keeps EH hp hk (fun s e=>recFacts_of (Bool.and_eq_true_iff.mp e).right) (Eq.refl _) acW h40 ⟨rfl,⟨rfl,⟨rfl,⟨rfl,⟨rfl,h41⟩⟩⟩⟩⟩
   (Exists.intro [WData.list []] ⟨acM,acN⟩) walk
end
section
variable {body:List Stmt}{Q:Flow->Shared->Prop}{M:Model}{pos:Pos}
section
variable {prog:Program}{w:World}{A:Around}{E:Value->Shared->Prop}{s:Shared}{R:Result->Shared->Prop}{env:Env}
theorem EI
  (h:ay s (fun e s'=>ay s' (fun e' kK=>R (.error e') kK) (A.deeper env) (model prog w) (fun ψ kK=>R (.error e) kK) (leaving env e)) (A.deeper env) (model prog w) (fun f s'=>R (.ok (.ret (match f with| .ret v=>v|_=> .none))) s') (execs body env)):cQ (model prog w) A (.func body env) R s:=by
 refine dE rfl ?_;show ay s _ (A.deeper env) _ _ (do point;match <- (execs body env).onRaise (leaving env) with| .ret v=>ret v|_=>ret .none);refine af (yP (af (kJ (au h (fun f s' h'=> ?_) fun ψ ψ h'=>h'))));cases f <;> exact ax h'
theorem rF{a:Addr}{args:Args}{o:Obj}{fd:FuncData}(Hh:A.depth<recursionLimit)(ho:s.heap.get? a=some o)(Kj:o.data= .func fd)
  (Hi:fd.scope.isCoroutine=false)(yT:fd.scope.isGenerator=false)(Hj:fd.body= .stmts body)(Kk:s.heap.CodeRec fd.code fd.qualname)
  (h:ay s (fun e s'=>R (.error e) s') A.in1 (model prog w) (fun binds s₁=>ay s₁ (fun e s'=>R (.error e) s') A.in1 (model prog w) (fun env s₂=>s₂.heap.NoLimit/\cQ (model prog w) A (.func body env) R s₂) (newFunctionEnv fd.scope fd.globals fd.closure binds (fd.qualname++".<locals>.") (some a) fd.code none fd.builtins)) (bindArgs fd args)):cQ (model prog w) A (.call (.ref a) args) R s:=by
 refine dE rfl ?_;show ay s _ A.in1 _ _ (callAny (.ref a) args);refine af (aj (wpAny_load ho ?_));obtain⟨c,oc,vs,tq,hc,hoc,hdc,hq⟩:=Kk;rw [hc] at h;rw [Kj];show ay _ _ _ _ _ (callFunction a fd args);delta callFunction;rw [hc,Hi,yT,Hj];refine af (m:=field (.ref c) 1) (aj (wpAny_field hoc hdc hq (show ay _ _ _ _ _ _ from af (ax ?_))));exact af (au h (fun binds s₁ h₁=>af (au h₁ (fun env s₂ h₂=>af (aj (wpAny_enterFrame h₂.1 Hh (show ay _ _ _ _ _ _ from ax (And.intro rfl h₂.2))))) fun ψ ψ h'=>h')) fun ψ ψ h'=>h')
theorem cL{st:Stmt}{rest:List Stmt}
  (h:ay s E A M (fun f s'=>match f with| .next=>ay s' E A M Q (execs rest env)|f=>Q f s') (exec st env)):ay s E A M Q (execs (st::rest) env):=fun Γ p hΓ hc=>by
 rw [execs_cons,Sem.wp_bind'];refine Sem.wp_mono M Γ _ (fun f p' s' h'=> ?_) (fun ψ ψ ψ h'=>h') _ _ (h Γ p hΓ hc);cases f <;> first|exact h' Γ p' hΓ hc|exact h'
theorem lB{x:Str}{pos':Pos}{value:Expr}(h:ay s E A M (fun v s₁=>ay s₁ E A M (fun ψ=>Q .next) (storeName env x v)) (eval value env))
  (hs:swapsWith value (some (.Name x pos')) pos.line env=pure false):ay s E A M Q (exec (.Assign [.Name x pos'] value pos) env):=fun Γ p hΓ hc=>by
 simp only [exec_Assign_Name env x pos' value pos hs,Sem.wp_bind',Sem.wp_cmd_standAt,Sem.wp_bindName,Sem.wp_pure'];exact Sem.wp_mono M Γ _ (fun v ψ s₁ h₁=>h₁ Γ _ hΓ hc) (fun ψ ψ ψ h'=>h') _ _ (h Γ _ hΓ hc)
theorem CI{test:Expr}{orelse:List Stmt}
  (h:ay s E A M (fun b s₂=>if b then ay s₂ E A M Q (execs body env) else ay s₂ E A M Q (execs orelse env)) (PySem.isTrue test env (eval test env))):ay s E A M Q (exec (.If test body orelse pos) env):=fun Γ p hΓ hc=>by
 simp only [exec_If,Sem.wp_bind',Sem.wp_cmd_standAt];refine Sem.wp_mono M Γ _ (fun b p₂ s₂ h₂=> ?_) (fun ψ ψ ψ h'=>h') _ _ (h Γ _ hΓ hc);cases b <;> exact h₂ Γ p₂ hΓ hc
theorem pU{e:Expr}(h:ay s E A M (fun v=>Q (.ret v)) (eval e env)):ay s E A M Q (exec (.Return (some e) pos) env):=fun Γ p hΓ hc=>by
 simp only [exec_Return_some,Sem.wp_bind',Sem.wp_cmd_standAt,Sem.wp_pure'];exact h Γ _ hΓ hc
end
end
section
variable {Q:Value->Shared->Prop}{l r x:Expr}{pos:Pos}{op:CmpOp}{whole:Sem Value}{rest:List Expr}
section
variable {M:Model}{A:Around}{E:Value->Shared->Prop}{s:Shared}{env:Env}
theorem qi{vs:List Value}{m:Sem Value}(h:ay s E A M Q m):ay s E A M Q (operate vs m):=fun Γ p hΓ hc=>by
 rw [Sem.wp_operate];exact h Γ p hΓ hc
theorem Hl{op:Operator}(h:ay s E A M (fun a s₁=>ay s₁ E A M (fun b s₂=>ay s₂ E A M Q (binaryOp op a b)) (eval r env)) (eval l env)):
  ay s E A M Q (eval (.BinOp l op r pos) env):=fun Γ p hΓ hc=>by
 simp only [eval_BinOp,Sem.wp_bind',Sem.wp_holding,Sem.wp_cmd_standAt,Sem.wp_operate];exact Sem.wp_mono M Γ _ (fun a p₁ s₁ h₁=>Sem.wp_mono M Γ _ (fun b ψ s₂ h₂=>h₂ Γ _ hΓ hc) (fun ψ ψ ψ h'=>h') _ _ (h₁ Γ p₁ hΓ hc)) (fun ψ ψ ψ h'=>h') _ _ (h Γ p hΓ hc)
theorem tK(h:ay s E A M (fun a s₁=>ay s₁ E A M (fun b s₂=>ay s₂ E A M Q (compareOp op a b)) (eval r env)) (eval l env))
  (hm:behindInMarks op r=false):ay s E A M Q (eval (.Compare l [op] [r] pos) env):=fun Γ p hΓ hc=>by
 simp only [eval_Compare1,markedBehindIn_of_false hm,Sem.wp_bind',Sem.wp_holding,Sem.wp_cmd_standAt,Sem.wp_operate];exact Sem.wp_mono M Γ _ (fun a p₁ s₁ h₁=>Sem.wp_mono M Γ _ (fun b ψ s₂ h₂=>h₂ Γ _ hΓ hc) (fun ψ ψ ψ h'=>h') _ _ (h₁ Γ p₁ hΓ hc)) (fun ψ ψ ψ h'=>h') _ _ (h Γ p hΓ hc)
theorem rG{Q:Bool->Shared->Prop}(h:ay s E A M (fun a s₁=>ay s₁ E A M (fun b s₂=>ay s₂ E A M (fun c s₃=>ay s₃ E A M Q (truthy c)) (compareOp op a b)) (eval r env)) (eval l env))(hm:behindInMarks op r=false):ay s E A M Q (PySem.isTrue (.Compare l [op] [r] pos) env whole):=fun Γ p hΓ hc=>by
 simp only [isTrue_Compare1,markedBehindIn_of_false hm,Sem.wp_bind',Sem.wp_holding,Sem.wp_cmd_standAt,Sem.wp_operate];exact Sem.wp_mono M Γ _ (fun a p₁ s₁ h₁=>Sem.wp_mono M Γ _ (fun b ψ s₂ h₂=>Sem.wp_mono M Γ _ (fun c p₃ s₃ h₃=>h₃ Γ p₃ hΓ hc)
  (fun ψ ψ ψ h'=>h') _ _ (h₂ Γ _ hΓ hc)) (fun ψ ψ ψ h'=>h') _ _ (h₁ Γ p₁ hΓ hc)) (fun ψ ψ ψ h'=>h') _ _ (h Γ p hΓ hc)
theorem uS{e:Expr}{Q:Bool->Shared->Prop}(h:ay s E A M (fun v s₁=>ay s₁ E A M Q (truthy v)) whole)
  (he:PySem.isTrue e env whole=(do let v <- whole;standAt e.pos;holding [v] (truthy v))):ay s E A M Q (PySem.isTrue e env whole):=by
 rw [he];exact af (au h (fun v s₁ h₁=>af (bx (aK h₁))) fun ψ ψ x=>x)
theorem t_{op:BoolOp}{values:List Expr}{Q:Bool->Shared->Prop}(h:ay s E A M Q (allTrue op values env)):ay s E A M Q (PySem.isTrue (.BoolOp op values pos) env whole):=by
 rw [arm_isTrue_BoolOp];exact h
theorem ri{Q:Bool->Shared->Prop}
  (h:ay s E A M (fun b s₁=>if b then ay s₁ E A M Q (allTrue .And rest env) else Q false s₁) (PySem.isTrue x env (eval x env))):ay s E A M Q (allTrue .And (x::rest) env):=by
 show ay s E A M Q (do match BoolOp.And, <- PySem.isTrue x env (eval x env) with| .And,false=>pure false| .Or,true=>pure true|_,_=>allTrue .And rest env);refine af (au h (fun b s₁ h₁=> ?_) fun ψ ψ x=>x);cases b
 ·exact ax h₁
 ·exact h₁
theorem rH{Q:Bool->Shared->Prop}
  (h:ay s E A M (fun b s₁=>if b then Q true s₁ else ay s₁ E A M Q (allTrue .Or rest env)) (PySem.isTrue x env (eval x env))):ay s E A M Q (allTrue .Or (x::rest) env):=by
 show ay s E A M Q (do match BoolOp.Or, <- PySem.isTrue x env (eval x env) with| .And,false=>pure false| .Or,true=>pure true|_,_=>allTrue .Or rest env);refine af (au h (fun b s₁ h₁=> ?_) fun ψ ψ x=>x);cases b
 ·exact h₁
 ·exact ax h₁
theorem Hm{t b o:Expr}(h:ay s E A M (fun c s₁=>if c then ay s₁ E A M Q (eval b env) else ay s₁ E A M Q (eval o env)) (PySem.isTrue t env (eval t env))):
  ay s E A M Q (eval (.IfExp t b o pos) env):=by
 rw [arm_eval_IfExp];refine af (au h (fun c s₁ h₁=> ?_) fun ψ ψ x=>x);cases c <;> exact h₁
theorem iC{id:Str}{p:Pos}{args:List Expr}(h:ay s E A M (fun f s₁=>ay s₁ E A M Q (callWith pos f [] (backTo pos (starEach args env)) [])) (eval (.Name id p) env)):
  ay s E A M Q (eval (.Call (.Name id p) args [] pos) env):=by
 show ay s E A M Q (do callWith pos (<- eval (.Name id p) env) [] (backTo pos (starEach args env)) (backToKw pos (keywordEach [] env)));exact af h
theorem jE{f:Value}{x:Sem Value}{rest:List (Bool×Sem Value)}{Q:Args->Shared->Prop}(h:ay s E A M (fun vs s'=>Q ⟨vs, []⟩ s') (spliced ((false,x)::rest))):
  ay s E A M Q (evalArgs f true ((false,x)::rest) []):=by
 unfold evalArgs;show ay s E A M Q (spliced ((false,x)::rest) >>= _);refine af (au h (fun vs s' h'=> ?_) fun ψ ψ x=>x);refine aK ?_;exact af (ax (af (ax (ax h'))))
end
end
section
variable {Q:List Value->Shared->Prop}{e o value:Expr}{pos:Pos}{prog:Program}{w:World}{attr:Str}
section
variable {M:Model}{A:Around}{E:Value->Shared->Prop}{s:Shared}{env:Env}
theorem uT{x:Sem Value}{rest:List (Bool×Sem Value)}(h:ay s E A M (fun v s₁=>ay s₁ E A M (fun vs s₂=>Q (v::vs) s₂) (spliced rest)) x):ay s E A M Q (spliced ((false,x)::rest)):=by
 rw [spliced];refine af (au h (fun v s₁ h₁=> ?_) fun ψ ψ x=>x);simp only [Bool.false_eq_true,if_false];exact af (ax (af (aK (au h₁ (fun vs s₂ h₂=>ax h₂) fun ψ ψ x=>x))))
theorem oK{rest:List Expr}(h:ay s E A M (fun v s₁=>ay s₁ E A M (fun vs s₂=>Q (v::vs) s₂) (spliced (backTo pos (starEach rest env)))) (eval e env))
  (he:starEach (e::rest) env=(false,eval e env)::starEach rest env):ay s E A M Q (spliced (backTo pos (starEach (e::rest) env))):=by
 rw [he];exact uT h
theorem uU(h:Q [] s):ay s E A M Q (spliced (backTo pos (starEach [] env))):=ax h
theorem yU{Q:Value->Shared->Prop}(h:ay s E A (model prog w) (fun o s₁=>ay s₁ E A (model prog w) Q (getAttr o attr true)) (eval value env))
  (he:eval (.Attribute value attr pos) env=(do
   let o <- eval value env
   standAt pos.atName
   let r <- holding [o] (getAttr o attr true)
   letTemporaryGo value o r
   pure r)):ay s E A (model prog w) Q (eval (.Attribute value attr pos) env):=by
 rw [he];refine af (au h (fun o s₁ h₁=>af (bx (af (aK (au h₁ (fun r s₂ h₂=> ?_) fun ψ ψ x=>x))))) fun ψ ψ x=>x);exact af (aj (wpAny_letTemporaryGo (show ay _ _ _ _ _ _ from ax h₂)))
theorem mv{name:Str}{apos:Pos}{args:List Expr}{pl:Sem Bool}{Q:Value->Shared->Prop}
  (h:ay s E A M (fun ov s₁=>ay s₁ E A M (fun fx s₂=>ay s₂ E A M Q (callWith pos fx.1 fx.2 (backTo pos (starEach args env)) (backToKw pos (keywordEach [] env)))) (getMethod ov name pl)) (eval o env))
  (he:eval (.Call (.Attribute o name apos) args [] pos) env=(do
   let ov <- eval o env
   standAt apos.atName
   let(f,first) <- holding [ov] (getMethod ov name pl)
   callWith pos f first (backTo pos (starEach args env)) (backToKw pos (keywordEach [] env)))):ay s E A M Q (eval (.Call (.Attribute o name apos) args [] pos) env):=by
 rw [he];refine af (au h (fun ov s₁ h₁=>af (bx (af (aK (au h₁ (fun fx s₂ h₂=> ?_) fun ψ ψ x=>x))))) fun ψ ψ x=>x);exact h₂
theorem xJ{x:Expr}{whole:Sem Value}{Q:Bool->Shared->Prop}(h:ay s E A M (fun c s'=>Q (!c) s') (PySem.isTrue x env (eval x env))):ay s E A M Q (PySem.isTrue (.UnaryOp .Not x pos) env whole):=by
 show ay s E A M Q (do return !(<- PySem.isTrue x env (eval x env)));exact af (au h (fun c s' h'=>ax h') fun ψ ψ x=>x)
theorem Ho{lo hi step:Option Expr}{p:Pos}{Q:Value->Shared->Prop}(h:ay s E A M (fun l s₁=>ay s₁ E A M (fun u s₂=>ay s₂ E A M (fun st s₃=>
   Q (.ref s₃.heap.objs.size) {s₃ with heap:=s₃.heap.push {cls:= .type "slice",data:= .fields #[l,u,st]}}) (evalPart step env)) (evalPart hi env)) (evalPart lo env)):ay s E A M Q (eval (.Slice lo hi step p) env):=by
 rw [arm_eval_Slice];refine af (au h (fun l s₁ h₁=>af (aK (au h₁ (fun u s₂ h₂=>af (aK (au h₂ (fun st s₃ h₃=> ?_) fun ψ ψ x=>x))) fun ψ ψ x=>x))) fun ψ ψ x=>x);exact aj (wpAny_newObj_type h₃)
theorem lp{pos':Pos}{Q:Flow->Shared->Prop}(h:ay s E A M (fun v s₁=>ay s₁ E A M (fun ov s₂=>ay s₂ E A M (fun ψ=>Q .next) (setAttr ov attr v)) (eval o env)) (eval value env))
  (hs:swapsWith value (some (.Attribute o attr pos')) pos.line env=pure false):ay s E A M Q (exec (.Assign [.Attribute o attr pos'] value pos) env):=fun Γ p hΓ hc=>by
 simp only [plainObj_exec_Assign_Attribute o attr pos' value pos hs,assign_Attribute,Sem.wp_bind',Sem.wp_holding,Sem.wp_cmd_standAt,Sem.wp_release,Sem.wp_pure'];exact Sem.wp_mono M Γ _ (fun v p₁ s₁ h₁=>Sem.wp_mono M Γ _ (fun ov ψ s₂ h₂=>h₂ Γ _ hΓ hc) (fun ψ ψ ψ h'=>h') _ _ (h₁ Γ p₁ hΓ hc)) (fun ψ ψ ψ h'=>h') _ _ (h Γ _ hΓ hc)
theorem BF{Q:Flow->Shared->Prop}(h:ay s E A (model prog w) (fun ψ=>Q .next) (eval e env))(hi:interactive env=false)(hs:swapsWith e none pos.line env=pure false):
  ay s E A (model prog w) Q (exec (.Expr e pos) env):=by
 rw [exec_Expr env e pos hi hs];exact af (bx (af (au h (fun v s' h'=>aj (wpAny_dropValue h')) fun ψ ψ x=>x)))
end
end
section
variable {α:Type}
section
variable {M:Model}{A:Around}{E:Value->Shared->Prop}{s:Shared}{env:Env}
theorem BG{vs:List Value}{m:Sem α}{Q:α->Shared->Prop}(h:ay s E A M Q m):ay s E A M Q (m.keep vs):=fun Γ p hΓ hc=>by rw [Sem.wp_keep];exact h Γ p hΓ hc
theorem EJ{c:Prop}[Decidable c]{x y:Sem α}{Q:α->Shared->Prop}(h:ay s E A M Q x)(k:ay s E A M Q y):ay s E A M Q (if c then x else y):=by
 by_cases z:c
 ·rw [if_pos z];exact h
 ·rw [if_neg z];exact k
theorem lN{pos:Pos}{f:Value}{first:List Value}{Q:Value->Shared->Prop}{P:Heap->Prop}{args:List (Bool×Sem Value)}{keywords:List (Option Str×Sem Value)}(Px:(args.any (·.1)||keywords.any (·.1.isNone))=false)
  (hk:∀h,P h->∃k,(k=Keeper.frame\/k=Keeper.machine\/k=Keeper.boundFrame)/\Looks M h (keeperOf f) k)
  (h:ay s E A M (fun a s₁=>P s₁.heap/\ay s₁ E A M Q (call f (first++a.pos) a.kw)) (evalArgs f true args keywords)):ay s E A M Q (callWith pos f first args keywords):=by
 refine af (aK (au h (fun a s₁ h₁=>af (bx ?_)) fun ψ ψ x=>x));obtain⟨k,T4,L⟩:=hk _ h₁.1;refine af (aj (L.here ?_));rw [Px];have tail:∀ {t:Sem Value},ay s₁ E A M Q t->ay s₁ E A M Q (t >>= fun r=>holding [r] point >>= fun ψ=>pure r):=
  fun ht=>af (au ht (fun r s₂ hr=>af (aK (yP (ax hr)))) fun ψ ψ x=>x)
 rcases T4 with rfl|rfl|rfl
 ·exact EJ (tail h₁.2) (tail (BG h₁.2))
 ·exact tail h₁.2
 ·exact EJ (tail h₁.2) (tail (BG h₁.2))
end
end
section
variable {M:Model}{c:Code}{aU:Expr}{body orelse:List Stmt}{Q:Flow->Shared->Prop}
section
variable {prog:Program}{w:World}{A:Around}{E:Value->Shared->Prop}{s:Shared}{R:Result->Shared->Prop}{env:Env}
theorem ua{α:Type}{m:Sem α}{Q:α->Shared->Prop}(h:ay s (notedBy M A env E) A M Q m):ay s E A M Q (m.onRaise fun x=>do noteFrame x env;theTreesLotGoes x):=
 kJ (au h (fun ψ ψ q=>q) fun ψ ψ hx=>aj (aN (wpAny_mono hx (fun ψ ψ e=>wpAny_theTreesLotGoes e) fun ψ ψ e=>e)))
theorem CJ(fY:jY c=true)(hq:c.quiet=true)(I:Nat->Shared->Prop)
  (turn:∀n s,I n s->ay s (fun e s'=>R (.error e) s') (A.under c) M (fun fin s'=>match fin with| .done f=>R (.ok f) s'| .again c'=>(c'=c/\∃m,m<n/\I m s')\/(c'.quiet=true/\cQ M A c' R s')) (M.den c))
  (n:Nat)(h:I n s):cQ M A c R s:=by
 induction n using Nat.strongRecOn generalizing s with
 |ind n ih=>
  refine dE fY (au (turn n s h) (fun fin s' hf=> ?_) fun ψ ψ h'=>h');cases fin with
  |done f=>exact hf
  |again c'=>
   rcases hf with⟨rfl,m,hm,hI⟩|hf
   ·exact⟨hq,ih m hm hI⟩
   ·exact hf
theorem CK{stmts:List Stmt}(h:ay s (notedBy (model prog w) A env fun e s'=>R (.error e) s') A (model prog w) (fun f s'=>R (.ok f) s') (execs stmts env)):cQ (model prog w) A (.block stmts env) R s:=by
 refine dE rfl ?_;show ay s _ _ _ _ (do return Fin.done (<- (execs stmts env).onRaise (fun x=>do noteFrame x env;theTreesLotGoes x)));exact af (ua (au h (fun f s' h'=>ax h') fun ψ ψ h'=>h'))
theorem yV{it:Value}(I:Nat->Shared->Prop)
  (turn:∀n s,I n s->ay s (notedBy (model prog w) A env fun e s'=>R (.error e) s') A (model prog w) (fun r s₁=>match r with
   |none=>ay s₁ (notedBy (model prog w) A env fun e s'=>R (.error e) s') A (model prog w) (fun f s₃=>R (.ok f) s₃) (execs orelse env)
   |some v=>ay s₁ (notedBy (model prog w) A env fun e s'=>R (.error e) s') A (model prog w) (fun ψ L4=>ay L4 (notedBy (model prog w) A env fun e s'=>R (.error e) s') A (model prog w) (fun ψ s₂=>ay s₂ (notedBy (model prog w) A env fun e s'=>R (.error e) s') A (model prog w) (fun f s₃=>match f with
      | .next| .cont=>∃m,m<n/\I m s₃
      | .brk=>R (.ok .next) s₃
      | .ret v=>R (.ok (.ret v)) s₃) (execs body env)) (assign aU env v)) (letOwnedTupleGo aU it v)) (pyNext it))
  (n:Nat)(h:I n s):cQ (model prog w) A (.forLoop aU it body orelse env) R s:=by
 refine CJ rfl rfl I (fun n s hI=> ?_) n h;show ay s _ A _ _ ((forTurn aU it body orelse env).onRaise (fun x=>do noteFrame x env;theTreesLotGoes x));refine ua ?_;refine af (bx (af (kJ (au (turn n s hI) (fun r s₁ h₁=> ?_) fun ψ ψ h'=>bx h'))));cases r with
 |none=>exact ax (.inr ⟨rfl,CK h₁⟩)
 |some v=>
  refine af (au h₁ (fun ψ L4 T5=> ?_) fun ψ ψ h'=>h');refine af (au T5 (fun ψ s₂ h₂=>af (au h₂ (fun f s₃ h₃=> ?_) fun ψ ψ h'=>h')) fun ψ ψ h'=>h');cases f with
  |next=>exact ax (.inl ⟨rfl,h₃⟩)
  |cont=>exact ax (.inl ⟨rfl,h₃⟩)
  |brk=>exact ax h₃
  |ret v=>exact ax h₃
theorem EK(hc:cQ M (A.mark none) c (fun r s'=>match r with| .ok f=>Q f s'| .error e=>cameBackBy M A env E e s') s):ay s E A M Q (runOwn c env):=by
 exact kJ (au (ED (Q:=Q) (E:=fun e s'=>cameBackBy M A env E e s') hc) (fun ψ ψ q=>q) fun ψ ψ q=>aj q)
theorem L5{iter:Expr}{pos:Pos}
  (h:ay s E A M (fun x s₁=>ay s₁ E A M (fun it s₂=>cQ M (A.mark none) (.forLoop aU it body orelse env) (fun r s'=>match r with| .ok f=>Q f s'| .error e=>cameBackBy M A env E e s') s₂) (pyIter x)) (eval iter env))
  (hs:∀x,foldedSetIterable iter env x=pure x):ay s E A M Q (exec (.For aU iter body orelse pos) env):=by
 rw [exec_For];exact af (bx (af (au h (fun x s₁ h₁=>af (cR (hs x) (af (bx (af (aK (au h₁ (fun it s₂ h₂=>EK h₂) fun ψ ψ h'=>h'))))))) fun ψ ψ h'=>h')))
end
end
section
section
variable {prog:Program}{w:World}{A:Around}{E:Value->Shared->Prop}{s:Shared}{R:Result->Shared->Prop}{env:Env}
theorem oM{a:Addr}{o:Obj}{fd:FuncData}{body:List Stmt}{args:Args}{binds:List (Str×Value)}
  (Hh:A.depth<recursionLimit)(ho:s.heap.get? a=some o)(T6:o.data= .func fd)(acX:s.heap.NoLimit)(Kk:s.heap.CodeRec fd.code fd.qualname)(Hj:fd.body= .stmts body)(qk:BindsTo s fd args binds)(uV:fd.closure= [])
  (kM:∀x∈binds,fd.scope.names.lookup x.1=some .local\/(fd.scope.names.lookup x.1=some .cell/\((cellsFrom (s.heap.objs.size+1) fd.scope.names []).lookup x.1).isSome=true))
  (h:∀s₁,InCallC s (callEnvC fd s.heap.objs.size a).locals (bindL (callEnvC fd s.heap.objs.size a).kindOf binds fun ψ=>none) (callEnvC fd s.heap.objs.size a).cells
    (bindC (callEnvC fd s.heap.objs.size a).kindOf binds fun ψ=>none) s₁->
   ay s₁ (fun e s'=>ay s' (fun e' kK=>R (.error e') kK) (A.deeper (callEnvC fd s.heap.objs.size a)) (model prog w) (fun ψ kK=>R (.error e) kK) (leaving (callEnvC fd s.heap.objs.size a) e)) (A.deeper (callEnvC fd s.heap.objs.size a)) (model prog w) (fun f s'=>R (.ok (.ret (match f with| .ret v=>v|_=> .none))) s') (execs body (callEnvC fd s.heap.objs.size a)))
  (Hi:fd.scope.isCoroutine=false)(yT:fd.scope.isGenerator=false)(hk:fd.scope.kind= .function):cQ (model prog w) A (.call (.ref a) args) R s:=by
 refine rF Hh ho T6 Hi yT Hj Kk (aj (qk _ _ _ _ (show ay _ _ _ _ _ _ from aj ?_)));rw [uV];refine wpAny_newFunctionEnv_cells hk kM fun env he s' x=> ?_;subst he;exact⟨acX.keeps x.toInCall.keep,EI (h s' x)⟩
end
end
section
variable {value:Expr}{pos:Pos}{Q:Value->Shared->Prop}{mQ:List Expr}
section
variable {M:Model}{A:Around}{E:Value->Shared->Prop}{s:Shared}{env:Env}
theorem jc{slice:Expr}(h:ay s E A M (fun o s₁=>ay s₁ E A M (fun i s₂=>ay s₂ E A M Q (subscriptTail value slice o i)) (eval slice env)) (eval value env)):
  ay s E A M Q (eval (.Subscript value slice pos) env):=by
 rw [eval_Subscript];exact af (au h (fun o s₁ h₁=>af (aK (au h₁ (fun i s₂ h₂=>af (bx h₂)) fun ψ ψ x=>x))) fun ψ ψ x=>x)
theorem Hp{k:Nat}(h:ay s E A M (fun vs s₁=>ay s₁ E A M Q (newTuple vs)) (spliced (backTo pos (starEach mQ env)))):ay s E A M Q (eval (.Tuple mQ k pos) env):=by
 show ay s E A M Q (do standAt pos;newTuple (<- spliced (backTo pos (starEach mQ env))));exact af (bx (af h))
theorem Kl(h:ay s E A M (fun vs s₁=>ay s₁ E A M Q (newList vs)) (spliced (backTo pos (starEach mQ env)))):ay s E A M Q (eval (.List mQ pos) env):=by
 show ay s E A M Q (do standAt pos;newList (<- spliced (backTo pos (starEach mQ env))));exact af (bx (af h))
theorem ql{vs keep:List Value}{Q:Unit->Shared->Prop}(h:Q () s):ay s E A M Q (release vs keep):=aj (wpAny_release h)
theorem yW{l r₁ r₂:Expr}{o₁ o₂:CmpOp}{whole:Sem Value}{Q:Bool->Shared->Prop}(hb:lastMarks [o₁,o₂] [r₁,r₂]=false)
  (h:ay s E A M (fun a s₁=>ay s₁ E A M (fun b s₂=>ay s₂ E A M (fun c s₃=>ay s₃ E A M (fun t s₄=>
   if t=true then ay s₄ E A M (fun d s₅=>ay s₅ E A M (fun e s₆=>ay s₆ E A M Q (truthy e)) (compareOp o₂ b d)) (eval r₂ env) else Q false s₄) (truthy c)) (compareOp o₁ a b)) (eval r₁ env)) (eval l env)):
  ay s E A M Q (PySem.isTrue (.Compare l [o₁,o₂] [r₁,r₂] pos) env whole):=by
 show ay s E A M Q (do testChain pos (<- eval l env) [o₁,o₂] (markedEach [o₁,o₂] [r₁,r₂] (evalEach [r₁,r₂] env)));rw [markedEach_of_false _ _ _ hb];refine af (au h (fun a s₁ h₁=> ?_) fun ψ ψ e=>e);show ay _ _ _ _ _ (testChain pos a [o₁,o₂] [eval r₁ env,eval r₂ env]);refine af (aK (au h₁ (fun b s₂ h₂=>af (bx (af (aK (au h₂ (fun c s₃ h₃=>af (ql (af (aK (au h₃ (fun t s₄ h₄=> ?_) fun ψ ψ e=>e))))) fun ψ ψ e=>e))))) fun ψ ψ e=>e));cases t with
 |false=>exact ax h₄
 |true=>
  show ay _ _ _ _ _ (testChain pos b [o₂] [eval r₂ env]);exact af (aK (au h₄ (fun d s₅ h₅=>af (bx (af (qi (au h₅ (fun e s₆ h₆=>aK h₆) fun ψ ψ e=>e))))) fun ψ ψ e=>e))
theorem lq{o i:Expr}{pos':Pos}{Q:Flow->Shared->Prop}(h:ay s E A M (fun v s₁=>ay s₁ E A M (fun ov s₂=>ay s₂ E A M (fun iv s₃=>ay s₃ E A M (fun ψ=>Q .next) (setItem ov iv v)) (eval i env)) (eval o env)) (eval value env))
  (hs:swapsWith value (some (.Subscript o i pos')) pos.line env=pure false):ay s E A M Q (exec (.Assign [.Subscript o i pos'] value pos) env):=fun Γ p hΓ hc=>by
 rw [exec_Assign_Subscript o i pos' value pos hs];exact af (bx (af (au h (fun v s₁ h₁=>af (af (aK (au h₁ (fun ov s₂ h₂=>af (aK (au h₂ (fun iv s₃ h₃=>af (bx (af (aK (au h₃ (fun ψ s₄ h₄=>ql (ax h₄)) fun ψ ψ e=>e))))) fun ψ ψ e=>e))) fun ψ ψ e=>e)))) fun ψ ψ e=>e))) Γ p hΓ hc
end
end
section
variable {pos:Pos}
section
variable {M:Model}{A:Around}{E:Value->Shared->Prop}{s:Shared}{env:Env}
def qm(M:Model)(A:Around)(E:Value->Shared->Prop)(use:Option (Value->Sem Unit))(Q:Value->Shared->Prop)(acc:Value)(C:Addr)(r:Result)(s':Shared):Prop:=
 match r,use with
 | .ok _,none=>∃m,s'.heap.Ns C m/\∀h',Heap.SameBut C s'.heap h'->Q acc {s' with heap:=h'}
 | .ok _,some u=>ay s' E A M (fun ψ kK=>∃m,kK.heap.Ns C m/\∀h',Heap.SameBut C kK.heap h'->Q .none {kK with heap:=h'}) (u acc)
 | .error x,_=>∃m,s'.heap.Ns C m/\∀h',Heap.SameBut C s'.heap h'->∀cenv:Env,cenv.locals=C->ay {s' with heap:=h'} E A M (fun ψ ψ=>False) (passOn "comprehension.variables-let-go" x cenv:Sem Value)
theorem CN{α:Type}{c:Bool}{k:Unit->Sem α}{Q:α->Shared->Prop}(h:ay s E A M Q (k ())):ay s E A M Q (if c then(standAt pos >>= k) else k ()):=by
 split
 ·exact af (bx h)
 ·exact h
theorem ub{e:Expr}{scope:Scope}{Jc first:Sem Value}{g:Comprehension}{gs:List Comprehension}{cl:List (Str×Addr)}{use:Option (Value->Sem Unit)}{Q:Value->Shared->Prop}
  (fY:clausesOf e=g::gs)(hs:∀x,foldedSetIterable g.iter env x=pure x)(Hq:closureFor scope env=pure cl)(kM:scope.kind= .function)(yw:∀x∈scope.names,x.2= .local->scope.names.lookup x.1=some .local)
  (h:ay s E A M (fun x s₁=>ay s₁ E A M (fun it s₂=>ay s₂ E A M (fun acc s₃=>ay s₃ E A M (fun cenv s₄=>
    cQ M (A.mark none) (.compStart e 0 it acc {cenv with scope:=relabel scope env}) (qm M A E use Q acc cenv.locals) s₄) (newFunctionEnv scope env.globals cl [] env.qual none .none (some env))) Jc) (pyIter x)) first):
  ay s E A M Q (comprehension e scope env pos Jc false first use):=by
 unfold comprehension;rw [Hq,fY];refine af (au h (fun x s₁ h₁=>af (bx (af (cR (hs x) (af (aK (au h₁ (fun it s₂ h₂=>
  CN (af (au h₂ (fun acc s₃ h₃=>af (ax (af (au h₃ (fun cenv s₄ h₄=> ?_) fun ψ ψ h'=>h')))) fun ψ ψ h'=>h')))
   fun ψ ψ h'=>h'))))))) fun ψ ψ h'=>h')
 dsimp only;have hv:∀x∈(scope.names.filter fun x=>(x.2== .local||x.2== .cell)&&x.1 != (".0":Str)).reverse,x.2= .local->
   Env.kindOf {cenv with scope:=relabel scope env} x.1=some .local:=fun x hx hl=>lookup_relabel_local (yw x (List.mem_filter.mp (List.mem_reverse.mp hx)).1 hl)
 have EM:∀x∈(scope.names.filter fun x=>(x.2== .local||x.2== .cell)&&x.1 != (".0":Str)).reverse.drop 1++(scope.names.filter fun x=>(x.2== .local||x.2== .cell)&&x.1 != (".0":Str)).reverse.take 1,
   x.2= .local->Env.kindOf {cenv with scope:=relabel scope env} x.1=some .local:=fun x hx hl=>by
  rcases List.mem_append.mp hx with h1|h1
  ·exact hv x (List.mem_of_mem_drop h1) hl
  ·exact hv x (List.mem_of_mem_take h1) hl
 refine aK (af (uP (aK (ED (gB h₄ fun r s' hr=> ?_)))));cases r with
 |ok f=>
  cases use with
  |none=>
   obtain⟨m,hn,hr⟩:=hr;exact af (aK (aj (wpAny_comp_letGo (cenv:= {cenv with scope:=relabel scope env}) kM _ s' m hv hn fun h' m' ψ Hg=>show ay _ _ _ _ _ _ from ax (hr h' Hg))))
  |some u=>
   refine af (kn (af (aK (au hr (fun ψ kK L6=> ?_) fun ψ ψ h'=>h'))));obtain⟨m,hn,L6⟩:=L6;exact af (aj (wpAny_comp_letGo (cenv:= {cenv with scope:=relabel scope env}) kM _ kK m EM hn fun h' m' ψ Hg=>show ay _ _ _ _ _ _ from ax (L6 h' Hg)))
 |error x=>
  have L6:∃m,s'.heap.Ns cenv.locals m/\∀h',Heap.SameBut cenv.locals s'.heap h'->∀L7:Env,L7.locals=cenv.locals->ay {s' with heap:=h'} E A M (fun ψ ψ=>False) (passOn "comprehension.variables-let-go" x L7:Sem Value):=by cases use <;> exact hr
  obtain⟨m,hn,hr⟩:=L6;exact af (aK (aj (wpAny_comp_letGo (cenv:= {cenv with scope:=relabel scope env}) kM _ s' m hv hn fun h' m' ψ Hg=>show ay _ _ _ _ _ _ from au (hr h' Hg _ rfl) (fun ψ ψ f=>f.elim) fun ψ ψ y=>y)))
end
end
section
variable {env:Env}{pos:Pos}{dy iter aU:Expr}{ifs:List Expr}{scope:Scope}{acc it:Value}
section
variable {prog:Program}{w:World}{A:Around}{E:Value->Shared->Prop}{s:Shared}{R:Result->Shared->Prop}
theorem CO{α:Type}{M:Model}{m:Sem α}{Q:α->Shared->Prop}(h:ay s (notedBy M A env E) A M Q m):ay s E A M Q (m.onRaise fun x=>do noteFrame x env;standAt pos):=
 kJ (au h (fun ψ ψ q=>q) fun ψ ψ hx=>aj (aN (wpAny_mono hx (fun ψ ψ e=>wpAny_standAt e) fun ψ ψ e=>e)))
theorem v3{rest:List Comprehension}
  (h0:cQ (model prog w) A (.compLoop (.ListComp dy (⟨aU,iter,ifs,0⟩::rest) scope pos) 0 it acc env) R s)
  (h:ay s (notedBy (model prog w) A env fun x s'=>R (.error x) s') A (model prog w) (fun T7 s'=>cQ (model prog w) A (.compLoop (.ListComp dy (⟨aU,iter,ifs,0⟩::rest) scope pos) 0 T7 acc env) R s') (pyIter it)):
  cQ (model prog w) A (.compStart (.ListComp dy (⟨aU,iter,ifs,0⟩::rest) scope pos) 0 it acc env) R s:=by
 refine dE rfl ?_;refine CO ?_;refine af (aj (wpAny_askSetting ?_))
 split
 ·first
   |exact af (ax (ax (And.intro rfl h0)))
   |exact ax (And.intro rfl h0)
 ·first
   |exact af (kn (af (bx (af (au h (fun T7 s' h'=>ax (And.intro rfl h')) fun ψ ψ x=>x)))))
   |(refine af (kn ?_);show ay s _ _ _ _ (standAt iter.pos >>= _);exact af (bx (af (au h (fun T7 s' h'=>ax (And.intro rfl h')) fun ψ ψ x=>x))))
theorem xK(I:Nat->Shared->Prop)
  (turn:∀n s,I n s->ay s (notedBy (model prog w) A env fun e s'=>R (.error e) s') A (model prog w) (fun r s₁=>match r with
   |none=>R (.ok .next) s₁
   |some v=>ay s₁ (notedBy (model prog w) A env fun e s'=>R (.error e) s') A (model prog w) (fun ψ L4=>ay L4 (notedBy (model prog w) A env fun e s'=>R (.error e) s') A (model prog w) (fun ψ s₂=>
     ay s₂ (notedBy (model prog w) A env fun e s'=>R (.error e) s') A (model prog w) (fun ok s₃=>
      if ok=true then ay s₃ (notedBy (model prog w) A env fun e s'=>R (.error e) s') A (model prog w) (fun x s₄=>
       ay s₄ (notedBy (model prog w) A env fun e s'=>R (.error e) s') A (model prog w) (fun ψ s₅=>∃m,m<n/\I m s₅) (call (.builtin "list.append") [acc,x])) (eval dy env)
      else∃m,m<n/\I m s₃) (forIn ifs true fun c r=>if r=true then do let ok <- PySem.isTrue c env (eval c env);pure (ForInStep.yield ok) else pure (ForInStep.yield r))) (assign aU env v)) (letOwnedTupleGo aU it v)) (pyNext it))
  (n:Nat)(h:I n s):cQ (model prog w) A (.compLoop (.ListComp dy [⟨aU,iter,ifs,0⟩] scope pos) 0 it acc env) R s:=by
 refine EE rfl rfl I (fun n s hI=> ?_) n h;show ay s _ A _ _ ((compTurn (.ListComp dy [⟨aU,iter,ifs,0⟩] scope pos) 0 it acc env).onRaise (fun x=>do noteFrame x env;theTreesLotGoes x));refine ua ?_;rw [compTurn_list];refine af (bx (af (au (turn n s hI) (fun r s₁ h₁=> ?_) fun ψ ψ h'=>h')));cases r with
 |none=>exact ax h₁
 |some v=>
  refine af (au h₁ (fun ψ L4 T5=> ?_) fun ψ ψ h'=>h');refine af (au T5 (fun ψ s₂ h₂=>af (au h₂ (fun ok s₃ h₃=> ?_) fun ψ ψ h'=>h')) fun ψ ψ h'=>h');cases ok with
  |false=>exact af (ax (ax ⟨rfl,h₃⟩))
  |true=>exact af (af (au h₃ (fun x s₄ h₄=>af (au h₄ (fun ψ s₅ h₅=>ax (ax ⟨rfl,h₅⟩)) fun ψ ψ h'=>h')) fun ψ ψ h'=>h'))
end
end
section
set_option backward.match.sparseCases false
variable {xs:List MV}{vs:List Value}{x:MV}{v:Value}{i j:Nat}{k:List UInt8}{mo:MO}{o:Obj}{X:Addr->Prop}{a:Addr}
noncomputable abbrev KK(w:World):Frag:=KL w.params
structure Base (w:World) (h:Heap):Prop where
 X:(KK w).In h
 top:∃mg mb,h.Ns mainGlobals mg/\h.Ns builtinsNs mb/\(∀x:Str,x≠"__name__"->mb x=bootBuiltins x)
 nolimit:h.NoLimit
theorem Base.keeps{w:World}{h h':Heap}(b:Base w h)(k:∀a o,h.get? a=some o->h'.get? a=some o):Base w h':=
 ⟨b.X.keeps k,let⟨mg,mb,x,y,z⟩:=b.top;⟨mg,mb,x.keeps k,y.keeps k,z⟩,b.nolimit.keeps k⟩
abbrev Sub(g h:Heap):Prop:=∀a o,g.get? a=some o->h.get? a=some o
inductive MV where
 |none|bool (b:Bool)|int (n:Int)|str (s:Str)|bytes (b:List UInt8)|tup (l:List MV)|oz (a b:Int)|obj (i:Nat)|fn (v:Value)
inductive MO where
 |list (xs:List MV)|ba (b:List UInt8)|inst (C:Addr)|dO (fs:List (Str×MV))|dict (es:List (Int×MV))|tL (n:Nat)|bad
structure MH where
 n:Nat
 ob:Nat->MO
noncomputable abbrev av:=List (Option MV)
noncomputable def MH.set(m:MH)(i:Nat)(o:MO):MH:=⟨m.n,fun j=>if j=i then o else m.ob j⟩
noncomputable def MH.new(m:MH)(o:MO):MH:=⟨m.n+1,fun j=>if j=m.n then o else m.ob j⟩
noncomputable abbrev fO(vs:List Value)(n:Nat):Obj:= {cls:= .type "list",data:= .seq vs.toArray n}
noncomputable abbrev tM(vs:List Value)(n:Nat):Obj:= {cls:= .type "tuple",data:= .seq vs.toArray n}
noncomputable abbrev pe(b:List UInt8):Obj:= {cls:= .type "bytearray",data:= .bytearray b.toArray}
noncomputable abbrev Jd(a b:Int)(t u v:Tok):Obj:= {cls:= .type "range",data:= .fields #[.int a t,.int b u,.int 1 v]}
def l9(o:Obj):Prop:=(∃vs n,o=tM vs n)\/(∃a b t u v,o=Jd a b t u v)
inductive F2 {α β:Type} (R:α->β->Prop):List α->List β->Prop where
 |nil:F2 R [] []
 |cons {a:α} {b:β} {as:List α} {bs:List β}:R a b->F2 R as bs->F2 R (a::as) (b::bs)
namespace F2
variable {α β:Type}{R R':α->β->Prop}{as cs:List α}{bs ds:List β}
theorem mono(h:F2 R as bs)(k:∀a b,R a b->R' a b):F2 R' as bs:=by
 induction h with
 |nil=>exact .nil
 |cons a _ ih=>exact .cons (k _ _ a) ih
theorem len(h:F2 R as bs):as.length=bs.length:=by
 induction h with
 |nil=>rfl
 |cons a _ ih=>exact congrArg Nat.succ ih
theorem get(h:F2 R as bs):∀ {k:Nat} {a:α},as[k]? =some a->∃b,bs[k]? =some b/\R a b:=by
 induction h with
 |nil=>exact fun e=>absurd e (by simp)
 |cons r _ ih=>
  intro k a e;cases k with
  |zero=>exact dZ e▸⟨_,rfl,r⟩
  |succ k=>exact ih (k:=k) e
theorem append(h:F2 R as bs)(g:F2 R cs ds):F2 R (as++cs) (bs++ds):=by
 induction h with
 |nil=>exact g
 |cons a _ ih=>exact .cons a ih
theorem snoc{a:α}{b:β}(h:F2 R as bs)(r:R a b):F2 R (as++ [a]) (bs++ [b]):=h.append (.cons r .nil)
theorem drop(h:F2 R as bs):∀k,F2 R (as.drop k) (bs.drop k):=by
 induction h with
 |nil=>intro k;rw [List.drop_nil,List.drop_nil];exact .nil
 |cons a b ih=>intro k;cases k with
  |zero=>exact .cons a b
  |succ k=>exact ih k
theorem take(h:F2 R as bs):∀k,F2 R (as.take k) (bs.take k):=by
 induction h with
 |nil=>intro k;rw [List.take_nil,List.take_nil];exact .nil
 |cons a b ih=>intro k;cases k with
  |zero=>exact .nil
  |succ k=>exact .cons a (ih k)
end F2
noncomputable def MV.int?:MV->Option Int
 | .int k=>some k
 |_=>Option.none
noncomputable def MV.uW:MV->Option Str
 | .str k=>some k
 |_=>Option.none
noncomputable def MV.qn:MV->Option (List UInt8)
 | .bytes k=>some k
 |_=>Option.none
noncomputable def MV.bool?:MV->Option Bool
 | .bool k=>some k
 |_=>Option.none
noncomputable def MV.ig:MV->Option Nat
 | .obj k=>some k
 |_=>Option.none
noncomputable def MV.BJ:MV->Option (List MV)
 | .tup k=>some k
 |_=>Option.none
noncomputable def MV.Py:MV->Option Value
 | .fn k=>some k
 |_=>Option.none
noncomputable def MO.gQ:MO->Option (List MV)
 | .list k=>some k
 |_=>Option.none
noncomputable def MO.Km:MO->Option (List UInt8)
 | .ba k=>some k
 |_=>Option.none
noncomputable def MO.inst?:MO->Option Addr
 | .inst k=>some k
 |_=>Option.none
noncomputable def MO.EN:MO->Option (List (Str×MV))
 | .dO k=>some k
 |_=>Option.none
noncomputable def MO.Hr:MO->Option (List (Int×MV))
 | .dict k=>some k
 |_=>Option.none
mutual
inductive a_ (ρ:Nat->Addr) (n:Nat) (h:Heap):MV->Value->Prop where
 |none:a_ ρ n h .none .none
 |bool (b:Bool):a_ ρ n h (.bool b) (.bool b)
 |int (k:Int) (t:Tok):a_ ρ n h (.int k) (.int k t)
 |str (s:Str) (t:Tok):a_ ρ n h (.str s) (.str s t)
 |bytes (b:List UInt8) (t:Tok):a_ ρ n h (.bytes b) (.bytes b.toArray t)
 |tup {xs:List MV} {vs:List Value} {a:Addr} {e:Nat}:h.get? a=some (tM vs e)->bI ρ n h xs vs->a_ ρ n h (.tup xs) (.ref a)
 |oz {a b:Int} {r:Addr} {t u v:Tok}:h.get? r=some (Jd a b t u v)->a_ ρ n h (.oz a b) (.ref r)
 |obj {i:Nat}:i<n->a_ ρ n h (.obj i) (.ref (ρ i))
 |fn (v:Value):a_ ρ n h (.fn v) v
inductive bI (ρ:Nat->Addr) (n:Nat) (h:Heap):List MV->List Value->Prop where
 |nil:bI ρ n h [] []
 |cons {x:MV} {v:Value} {xs:List MV} {vs:List Value}:a_ ρ n h x v->bI ρ n h xs vs->bI ρ n h (x::xs) (v::vs)
end
structure lr (ρ:Nat->Addr) (n:Nat) (h:Heap) (ρ':Nat->Addr) (n':Nat) (h':Heap):Prop where
 ρ:∀i,i<n->ρ' i=ρ i
 n:n<=n'
 nM:∀a o,h.get? a=some o->l9 o->h'.get? a=some o
section
variable {ρ ρ':Nat->Addr}{n n':Nat}{h h':Heap}
theorem bI.f2(r:bI ρ n h xs vs):F2 (a_ ρ n h) xs vs:=
 bI.rec (motive_1:=fun ψ ψ ψ=>True) (motive_2:=fun xs vs ψ=>F2 (a_ ρ n h) xs vs) trivial (fun ψ=>trivial) (fun ψ ψ=>trivial) (fun ψ ψ=>trivial) (fun ψ ψ=>trivial) (fun ψ ψ ψ=>trivial) (fun ψ=>trivial) (fun ψ=>trivial) (fun ψ=>trivial) .nil (fun a ψ ψ ih=> .cons a ih) r
theorem bI.of(r:F2 (a_ ρ n h) xs vs):bI ρ n h xs vs:=by
 induction r with
 |nil=>exact .nil
 |cons a _ ih=>exact .cons a ih
theorem a_.mono(k:lr ρ n h ρ' n' h')(r:a_ ρ n h x v):a_ ρ' n' h' x v:=
 a_.rec (motive_1:=fun x v ψ=>a_ ρ' n' h' x v) (motive_2:=fun xs vs ψ=>bI ρ' n' h' xs vs) .none .bool .int .str .bytes (fun e ψ ih=> .tup (k.nM _ _ e (.inl ⟨_,_,rfl⟩)) ih) (fun e=> .oz (k.nM _ _ e (.inr ⟨_,_,_,_,_,rfl⟩)))
  (fun hi=>k.ρ _ hi▸ .obj (eD hi k.n)) .fn .nil (fun ψ ψ a b=> .cons a b) r
theorem bI.mono(k:lr ρ n h ρ' n' h')(r:bI ρ n h xs vs):bI ρ' n' h' xs vs:= .of (r.f2.mono fun ψ ψ a=>a.mono k)
theorem bI.length(r:bI ρ n h xs vs):xs.length=vs.length:=r.f2.len
theorem bI.get(r:bI ρ n h xs vs)(e:xs[i]? =some x):∃v,vs[i]? =some v/\a_ ρ n h x v:=r.f2.get e
theorem bI.append{ys:List MV}{us:List Value}(r:bI ρ n h xs vs)(q:bI ρ n h ys us):bI ρ n h (xs++ys) (vs++us):= .of (r.f2.append q.f2)
theorem bI.drop(r:bI ρ n h xs vs)(k:Nat):bI ρ n h (xs.drop k) (vs.drop k):= .of (r.f2.drop k)
theorem bI.take(r:bI ρ n h xs vs)(k:Nat):bI ρ n h (xs.take k) (vs.take k):= .of (r.f2.take k)
theorem cj{α:Type}{b:α}{P:Prop}(e:(none:Option α)=some b):P:=Option.noConfusion rfl (heq_of_eq e)
theorem a_.iD{k:Int}(r:a_ ρ n h x v)(e:x.int?=some k):∃t,v= .int k t:=
 r.casesOn (motive_1:=fun x v ψ=>x.int?=some k->∃t,v= .int k t) cj (fun ψ=>cj) (fun ψ t e=>⟨t,congrArg (Value.int · t) (dZ e)⟩) (fun ψ ψ=>cj) (fun ψ ψ=>cj) (fun ψ ψ=>cj) (fun ψ=>cj) (fun ψ=>cj) (fun ψ=>cj) e
theorem a_.w9{k:Str}(r:a_ ρ n h x v)(e:x.uW=some k):∃t,v= .str k t:=
 r.casesOn (motive_1:=fun x v ψ=>x.uW=some k->∃t,v= .str k t) cj (fun ψ=>cj) (fun ψ ψ=>cj) (fun ψ t e=>⟨t,congrArg (Value.str · t) (dZ e)⟩) (fun ψ ψ=>cj) (fun ψ ψ=>cj) (fun ψ=>cj) (fun ψ=>cj) (fun ψ=>cj) e
theorem a_.uX(r:a_ ρ n h x v)(e:x.qn=some k):∃t,v= .bytes k.toArray t:=
 r.casesOn (motive_1:=fun x v ψ=>x.qn=some k->∃t,v= .bytes k.toArray t) cj (fun ψ=>cj) (fun ψ ψ=>cj) (fun ψ ψ=>cj) (fun ψ t e=>⟨t,congrArg (fun k:List UInt8=>Value.bytes k.toArray t) (dZ e)⟩) (fun ψ ψ=>cj) (fun ψ=>cj) (fun ψ=>cj) (fun ψ=>cj) e
theorem a_.CP{k:Bool}(r:a_ ρ n h x v)(e:x.bool?=some k):v= .bool k:=
 r.casesOn (motive_1:=fun x v ψ=>x.bool?=some k->v= .bool k) cj (fun ψ e=>congrArg Value.bool (dZ e)) (fun ψ ψ=>cj) (fun ψ ψ=>cj) (fun ψ ψ=>cj) (fun ψ ψ=>cj) (fun ψ=>cj) (fun ψ=>cj) (fun ψ=>cj) e
theorem a_.ij(r:a_ ρ n h x v)(e:x.ig=some i):i<n/\v= .ref (ρ i):=
 r.casesOn (motive_1:=fun x v ψ=>x.ig=some i->i<n/\v= .ref (ρ i)) cj (fun ψ=>cj) (fun ψ ψ=>cj) (fun ψ ψ=>cj) (fun ψ ψ=>cj) (fun ψ ψ=>cj) (fun ψ=>cj) (fun hi e=>dZ e▸⟨hi,rfl⟩) (fun ψ=>cj) e
def IsTup(ρ:Nat->Addr)(n:Nat)(h:Heap)(xs:List MV)(v:Value):Prop:=∃vs a k,h.get? a=some (tM vs k)/\bI ρ n h xs vs/\v= .ref a
theorem a_.tupI(r:a_ ρ n h x v)(e:x.BJ=some xs):IsTup ρ n h xs v:=
 r.casesOn (motive_1:=fun x v ψ=>x.BJ=some xs->IsTup ρ n h xs v) cj (fun ψ=>cj) (fun ψ ψ=>cj) (fun ψ ψ=>cj) (fun ψ ψ=>cj) (fun ha rs e=>(dZ e:_=xs)▸(⟨_,_,_,ha,rs,rfl⟩:IsTup ρ n h _ _)) (fun ψ=>cj) (fun ψ=>cj) (fun ψ=>cj) e
theorem a_.rj{u:Value}(r:a_ ρ n h x v)(e:x.Py=some u):v=u:=
 r.casesOn (motive_1:=fun x v ψ=>x.Py=some u->v=u) cj (fun ψ=>cj) (fun ψ ψ=>cj) (fun ψ ψ=>cj) (fun ψ ψ=>cj) (fun ψ ψ=>cj) (fun ψ=>cj) (fun ψ=>cj) (fun ψ e=>dZ e) e
theorem bI.one(r:bI ρ n h [x] vs):∃u,vs= [u]/\a_ ρ n h x u:=by
 cases r.f2 with
 |cons a q=>cases q;exact⟨_,rfl,a⟩
theorem bI.two{y:MV}(r:bI ρ n h [x,y] vs):∃u v,vs= [u,v]/\a_ ρ n h x u/\a_ ρ n h y v:=by
 cases r.f2 with
 |cons a q=>obtain⟨v,rfl,b⟩:=(bI.of q).one;exact⟨_,_,rfl,a,b⟩
end
inductive gK (w:World) (ρ:Nat->Addr) (n:Nat) (h:Heap):List (Str×MV)->List DictEntry->Prop where
 |nil:gK w ρ n h [] []
 |cons {k:Str} {t:Tok} {x:MV} {v:Value} {fs:List (Str×MV)} {es:List DictEntry}:a_ ρ n h x v->gK w ρ n h fs es->gK w ρ n h ((k,x)::fs) (⟨PyData.keyHash w.params k,.str k t,v⟩::es)
inductive fh (ρ:Nat->Addr) (n:Nat) (h:Heap):List (Int×MV)->List (Int×Value)->Prop where
 |nil:fh ρ n h [] []
 |cons {k:Int} {x:MV} {v:Value} {fs:List (Int×MV)} {es:List (Int×Value)}:a_ ρ n h x v->fh ρ n h fs es->fh ρ n h ((k,x)::fs) ((k,v)::es)
def mR(prog:Program)(w:World)(ρ:Nat->Addr)(n:Nat)(h:Heap)(i:Nat):MO->Obj->Prop
 | .list xs,o=>∃vs e,o=fO vs e/\bI ρ n h xs vs
 | .ba b,o=>o=pe b
 | .inst C,o=>i+1<n/\o=instObj C (ρ (i+1))
 | .dO fs,o=>∃es e,o=dictOf es e/\gK w ρ n h fs es
 | .dict es,o=>o.cls= .type "dict"/\(i<n/\ρ i≠sysModules)/\∃kvs,o.IsDictOf (intKind prog w) kvs/\fh ρ n h es kvs
 | .tL n,o=>o.ExactSet/\∃es ep t,o.data= .set es ep t/\t.fits es.size=true/\es.size=n
 | .bad,_=>False
section
variable {prog:Program}{w:World}{ρ ρ':Nat->Addr}{n n':Nat}{h h':Heap}{i:Nat}
theorem gK.mono(k:lr ρ n h ρ' n' h'){fs:List (Str×MV)}{es:List DictEntry}(r:gK w ρ n h fs es):gK w ρ' n' h' fs es:=by
 induction r with
 |nil=>exact .nil
 |cons a _ ih=>exact .cons (a.mono k) ih
theorem fh.mono(k:lr ρ n h ρ' n' h'){fs:List (Int×MV)}{es:List (Int×Value)}(r:fh ρ n h fs es):fh ρ' n' h' fs es:=by
 induction r with
 |nil=>exact .nil
 |cons a _ ih=>exact .cons (a.mono k) ih
theorem mR.mono(k:lr ρ n h ρ' n' h')(r:mR prog w ρ n h i mo o):mR prog w ρ' n' h' i mo o:=by
 cases mo with
 |list xs=>obtain⟨vs,e,a,b⟩:=r;exact⟨vs,e,a,b.mono k⟩
 |ba b=>exact r
 |inst C=>exact⟨eD r.1 k.n,by rw [k.ρ _ r.1];exact r.2⟩
 |dO fs=>obtain⟨es,e,a,b⟩:=r;exact⟨es,e,a,b.mono k⟩
 |dict es=>obtain⟨c,⟨c1,c2⟩,kvs,a,b⟩:=r;exact⟨c,⟨eD c1 k.n,by rw [k.ρ _ c1];exact c2⟩,kvs,a,b.mono k⟩
 |tL k=>exact r
 |bad=>exact r
theorem mR.cls(r:mR prog w ρ n h i mo o):o.cls= .type "list"\/o.cls= .type "bytearray"\/o.cls= .type "dict"\/o.cls= .type "set"\/∃C,o.cls= .ref C:=by
 cases mo with
 |list xs=>obtain⟨vs,e,rfl,b⟩:=r;exact .inl rfl
 |ba b=>cases r;exact .inr (.inl rfl)
 |inst C=>exact .inr (.inr (.inr (.inr ⟨C,by rw [r.2]⟩)))
 |tL k=>exact .inr (.inr (.inr (.inl r.1.1)))
 |dO fs=>obtain⟨es,e,rfl,b⟩:=r;exact .inr (.inr (.inl rfl))
 |dict es=>exact .inr (.inr (.inl r.1))
 |bad=>exact r.elim
theorem l9.cls(f:l9 o):o.cls= .type "tuple"\/o.cls= .type "range":=by
 rcases f with⟨vs,m,rfl⟩|⟨a,b,t,u,v,rfl⟩
 ·exact .inl rfl
 ·exact .inr rfl
theorem mR.Je(r:mR prog w ρ n h i mo o):¬l9 o:=fun f=>by
 rcases f.cls with e|e <;> rcases r.cls with q|q|q|q|⟨C,q⟩ <;> rw [e] at q <;> simp at q
end
section
variable {o:MO}
theorem MO.jN{k:List MV}(e:o.gQ=some k):o= .list k:=by
 cases o with
 |list j=>exact congrArg _ (dZ e)
 |_=>exact cj e
theorem MO.T8(e:o.Km=some k):o= .ba k:=by
 cases o with
 |ba j=>exact congrArg _ (dZ e)
 |_=>exact cj e
theorem MO.instI{k:Addr}(e:o.inst?=some k):o= .inst k:=by
 cases o with
 |inst j=>exact congrArg _ (dZ e)
 |_=>exact cj e
theorem MO.L9{k:List (Str×MV)}(e:o.EN=some k):o= .dO k:=by
 cases o with
 |dO j=>exact congrArg _ (dZ e)
 |_=>exact cj e
theorem MO.T9{k:List (Int×MV)}(e:o.Hr=some k):o= .dict k:=by
 cases o with
 |dict j=>exact congrArg _ (dZ e)
 |_=>exact cj e
end
structure OK (prog:Program) (w:World) (g:Heap) (s:Shared) (ρ:Nat->Addr) (m:MH):Prop where
 base:Base w g
 sub:Sub g s.heap
 inj:∀i j,i<m.n->j<m.n->ρ i=ρ j->i=j
 out:∀i,i<m.n->g.get? (ρ i)=none
 ob:∀i,i<m.n->∃o,s.heap.get? (ρ i)=some o/\mR prog w ρ m.n s.heap i (m.ob i) o
structure dh (T:Addr->Prop) (s:Shared) (ρ:Nat->Addr) (m:MH) (s':Shared) (ρ':Nat->Addr) (m':MH):Prop where
 ix:∀i,i<m.n->ρ' i=ρ i
 n:m.n<=m'.n
 new:∀i,m.n<=i->i<m'.n->s.heap.get? (ρ' i)=none
 alive:∀a o,s.heap.get? a=some o->∃o',s'.heap.get? a=some o'
 nM:∀a o,s.heap.get? a=some o->l9 o->s'.heap.get? a=some o
 keep:∀a o,s.heap.get? a=some o->(∀i,i<m.n->ρ i≠a)->¬T a->s'.heap.get? a=some o
 os:s'.os=s.os
 gens:s'.gens=s.gens
def fk:Addr->Prop:=fun ψ=>False
section
variable {prog:Program}{w:World}{g:Heap}{s s' kK:Shared}{ρ ρ' Pz:Nat->Addr}{m m' PA:MH}{T T':Addr->Prop}
theorem dh.mono(e:dh T s ρ m s' ρ' m'):lr ρ m.n s.heap ρ' m'.n s'.heap:=⟨e.ix,e.n,e.nM⟩
theorem dh.refl:dh T s ρ m s ρ m:=⟨fun ψ ψ=>rfl,dT _,fun i a b=>absurd b (Nat.not_lt.mpr a),fun ψ o e=>⟨o,e⟩,fun ψ ψ e ψ=>e,fun ψ ψ e ψ ψ=>e,rfl,rfl⟩
theorem dh.old(a:dh T s ρ m s' ρ' m'){x:Addr}(h:s'.heap.get? x=none):s.heap.get? x=none:=by
 cases e:s.heap.get? x with
 |none=>rfl
 |some o=>
  obtain⟨o',q⟩:=a.alive x o e;rw [h] at q;cases q
theorem dh.trans(a:dh T s ρ m s' ρ' m')(b:dh T' s' ρ' m' kK Pz PA)(hT:∀x o,s.heap.get? x=some o->T' x->T x):dh T s ρ m kK Pz PA where
 ix:=fun i hi=>(b.ix i (eD hi a.n)).trans (a.ix i hi)
 n:=jb a.n b.n
 new:=fun i h1 h2=>by
  by_cases h:i<m'.n
  ·rw [b.ix i h];exact a.new i h1 h
  ·exact a.old (b.new i (Nat.le_of_not_lt h) h2)
 alive:=fun x o e=>let⟨o',q⟩:=a.alive x o e;b.alive x o' q
 nM:=fun x o e f=>b.nM x o (a.nM x o e f) f
 keep:=fun x o e h1 h2=>b.keep x o (a.keep x o e h1 h2) (fun i hi q=>by
  by_cases h:i<m.n
  ·exact h1 i h ((a.ix i h).symm.trans q)
  ·have:=a.new i (Nat.le_of_not_lt h) hi;rw [q,e] at this;cases this) fun q=>h2 (hT x o e q)
 os:=b.os.trans a.os
 gens:=b.gens.trans a.gens
theorem dh.comp(a:dh T s ρ m s' ρ' m')(b:dh T s' ρ' m' kK Pz PA):dh T s ρ m kK Pz PA:=a.trans b fun ψ ψ ψ h=>h
theorem dh.weak(a:dh fk s ρ m s' ρ' m'):dh T s ρ m s' ρ' m':=⟨a.ix,a.n,a.new,a.alive,a.nM,fun x o e h ψ=>a.keep x o e h (fun q=>q),a.os,a.gens⟩
theorem dh.drop(a:dh T s ρ m s' ρ' m')(h:∀x,T x->s.heap.get? x=none):dh fk s ρ m s' ρ' m':=
 ⟨a.ix,a.n,a.new,a.alive,a.nM,fun x o e h1 ψ=>a.keep x o e h1 (fun q=>by rw [h x q] at e;cases e),a.os,a.gens⟩
theorem OK.grow(S:OK prog w g s ρ m)(k:Sub s.heap s'.heap):OK prog w g s' ρ m:=
 ⟨S.base,fun a o e=>k a o (S.sub a o e),S.inj,S.out,fun i hi=>let⟨o,a,b⟩:=S.ob i hi;⟨o,k _ _ a,b.mono ⟨fun ψ ψ=>rfl,dT _,fun a o e ψ=>k a o e⟩⟩⟩
theorem dh.grow(k:Sub s.heap s'.heap)(ho:s'.os=s.os)(hg:s'.gens=s.gens):dh T s ρ m s' ρ m:=
 ⟨fun ψ ψ=>rfl,dT _,fun i a b=>absurd b (Nat.not_lt.mpr a),fun a o e=>⟨o,k a o e⟩,fun a o e ψ=>k a o e,fun a o e ψ ψ=>k a o e,ho,hg⟩
theorem OK.now(S:OK prog w g s ρ m):Base w s.heap:=S.base.keeps S.sub
structure Hid (g:Heap) (s:Shared) (ρ:Nat->Addr) (m:MH) (X:Addr->Prop):Prop where
 g:∀a,X a->g.get? a=none
 ρ:∀a,X a->∀i,i<m.n->ρ i≠a
 nM:∀a o,X a->s.heap.get? a=some o->¬l9 o
theorem OK.kN(S:OK prog w g s ρ m)(H:Hid g s ρ m X)(k:∀a o,¬X a->s.heap.get? a=some o->s'.heap.get? a=some o):OK prog w g s' ρ m where
 base:=S.base
 sub:=fun a o e=>k a o (fun x=>by rw [H.g a x] at e;cases e) (S.sub a o e)
 inj:=S.inj
 out:=S.out
 ob:=fun i hi=>let⟨o,a,b⟩:=S.ob i hi
  ⟨o,k _ _ (fun x=>H.ρ _ x i hi rfl) a,b.mono ⟨fun ψ ψ=>rfl,dT _,fun a o e f=>k a o (fun x=>H.nM a o x e f) e⟩⟩
theorem dh.kN(H:Hid g s ρ m X)(k:∀a o,¬X a->s.heap.get? a=some o->s'.heap.get? a=some o)(hX:∀a,X a->T a)(z:∀a,X a->∃o,s'.heap.get? a=some o)(ho:s'.os=s.os)(hg:s'.gens=s.gens):dh T s ρ m s' ρ m:=
 ⟨fun ψ ψ=>rfl,dT _,fun i a b=>absurd b (Nat.not_lt.mpr a),fun a o e=>Classical.byCases (fun x:X a=>z a x) fun x=>⟨o,k a o x e⟩,fun a o e f=>k a o (fun x=>H.nM a o x e f) e,fun a o e ψ h=>k a o (fun x=>h (hX a x)) e,ho,hg⟩
theorem OK.put(S:OK prog w g s ρ m)(hi:i<m.n)(k:∀a o,a≠ρ i->s.heap.get? a=some o->s'.heap.get? a=some o)(ho:s'.heap.get? (ρ i)=some o)
  (hr:lr ρ m.n s.heap ρ m.n s'.heap->mR prog w ρ m.n s'.heap i mo o):OK prog w g s' ρ (m.set i mo):=by
 have hf:lr ρ m.n s.heap ρ m.n s'.heap:=⟨fun ψ ψ=>rfl,dT _,fun a o e f=>k a o (fun q=>by
  obtain⟨o',a',b'⟩:=S.ob i hi;subst q;rw [e] at a';cases a';exact b'.Je f) e⟩
 refine⟨S.base,fun a o e=>k a o (fun q=>by rw [q,S.out i hi] at e;cases e) (S.sub a o e),S.inj,S.out,fun j hj=> ?_⟩
 by_cases h:j=i
 ·subst h;exact⟨o,ho,by show mR prog w ρ m.n s'.heap j (if j=j then mo else m.ob j) o;rw [if_pos rfl];exact hr hf⟩
 ·obtain⟨o',a,b⟩:=S.ob j hj;refine⟨o',k _ _ (fun q=>h (S.inj j i hj hi q)) a, ?_⟩;show mR prog w ρ m.n s'.heap j (if j=i then mo else m.ob j) o';rw [if_neg h];exact b.mono hf
theorem dh.put(S:OK prog w g s ρ m)(hi:i<m.n)(k:∀a o,a≠ρ i->s.heap.get? a=some o->s'.heap.get? a=some o)(z:∃o,s'.heap.get? (ρ i)=some o)(ho:s'.os=s.os)(hg:s'.gens=s.gens):
  dh T s ρ m s' ρ (m.set i mo):=
 ⟨fun ψ ψ=>rfl,dT _,fun i a b=>absurd b (Nat.not_lt.mpr a),fun a o e=>Classical.byCases (fun x:a=ρ i=>x▸z) fun x=>⟨o,k a o x e⟩,fun a o e f=>k a o (fun q=>by
  obtain⟨o',a',b'⟩:=S.ob i hi;subst q;rw [e] at a';cases a';exact b'.Je f) e,fun a o e h ψ=>k a o (fun q=>h i hi q.symm) e,ho,hg⟩
noncomputable def eP(ρ:Nat->Addr)(i:Nat)(a:Addr):Nat->Addr:=fun j=>if j=i then a else ρ j
theorem ei:eP ρ i a i=a:=if_pos rfl
theorem acZ(h:j≠i):eP ρ i a j=ρ j:=if_neg h
theorem fC{n:Nat}(h:j<n):eP ρ n a j=ρ j:=if_neg (Nat.ne_of_lt h)
theorem OK.new(S:OK prog w g s ρ m)(ha:s.heap.get? a=some o)(hg:g.get? a=none)(hn:∀i,i<m.n->ρ i≠a)
  (hr:lr ρ m.n s.heap (eP ρ m.n a) (m.n+1) s.heap->mR prog w (eP ρ m.n a) (m.n+1) s.heap m.n mo o):OK prog w g s (eP ρ m.n a) (m.new mo):=by
 have hf:lr ρ m.n s.heap (eP ρ m.n a) (m.n+1) s.heap:=⟨fun ψ h=>fC h,Nat.le_succ _,fun ψ ψ e ψ=>e⟩;refine⟨S.base,S.sub,fun i j hi hj q=> ?_,fun i hi=> ?_,fun i hi=> ?_⟩
 ·change i<m.n+1 at hi;change j<m.n+1 at hj;rcases Nat.lt_succ_iff_lt_or_eq.mp hi with h1|rfl <;> rcases Nat.lt_succ_iff_lt_or_eq.mp hj with h2|rfl
  ·rw [fC h1,fC h2] at q;exact S.inj i j h1 h2 q
  ·rw [fC h1,ei] at q;exact absurd q (hn i h1)
  ·rw [fC h2,ei] at q;exact absurd q.symm (hn j h2)
  ·rfl
 ·change i<m.n+1 at hi;rcases Nat.lt_succ_iff_lt_or_eq.mp hi with h1|rfl
  ·rw [fC h1];exact S.out i h1
  ·rw [ei];exact hg
 ·change i<m.n+1 at hi;show∃o,s.heap.get? (eP ρ m.n a i)=some o/\mR prog w (eP ρ m.n a) (m.n+1) s.heap i (if i=m.n then mo else m.ob i) o;rcases Nat.lt_succ_iff_lt_or_eq.mp hi with h1|rfl
  ·obtain⟨o',x,y⟩:=S.ob i h1;rw [fC h1,if_neg (Nat.ne_of_lt h1)];exact⟨o',x,y.mono hf⟩
  ·rw [ei,if_pos rfl];exact⟨o,ha,hr hf⟩
theorem dh.v8(h:s.heap.get? a=none):∀(e:dh T s ρ m s' ρ' m'),dh T s ρ m s' (eP ρ' m'.n a) (m'.new mo):=fun e=>
 ⟨fun i hi=>(fC (eD hi e.n)).trans (e.ix i hi),Nat.le_succ_of_le e.n,fun i h1 h2=>by
  change i<m'.n+1 at h2;rcases Nat.lt_succ_iff_lt_or_eq.mp h2 with h3|rfl
  ·rw [fC h3];exact e.new i h1 h3
  ·rw [ei];exact h,e.alive,e.nM,e.keep,e.os,e.gens⟩
theorem cA(h:Heap):h.get? h.objs.size=none:=by
 cases q:h.get? h.objs.size with
 |none=>rfl
 |some o=>exact absurd (Heap.lt_size q) (Nat.lt_irrefl _)
theorem OK.pg(S:OK prog w g s ρ m)(h:s.heap.get? a=none):g.get? a=none:=by
 cases q:g.get? a with
 |none=>rfl
 |some o=>rw [S.sub _ _ q] at h;cases h
theorem OK.lC(S:OK prog w g s ρ m)(h:s.heap.get? a=none):∀i,i<m.n->ρ i≠a:=fun i hi q=>by
 obtain⟨o,e,_⟩:=S.ob i hi;rw [q,h] at e;cases e
end
end
section
noncomputable abbrev MM(α:Type):=MH->Option (α×MH)
namespace MM
noncomputable def ret{α:Type}(a:α):MM α:=fun m=>some (a,m)
noncomputable def bind{α β:Type}(c:MM α)(f:α->MM β):MM β:=fun m=>match c m with
 |none=>none
 |some (a,m')=>f a m'
noncomputable def fail{α:Type}:MM α:=fun ψ=>none
theorem lD{α:Type}{a b:α}{m m':MH}(h:ret a m=some (b,m')):b=a/\m'=m:=by cases h;exact⟨rfl,rfl⟩
theorem bind_some{α β:Type}{c:MM α}{f:α->MM β}{b:β}{m m':MH}(h:bind c f m=some (b,m')):∃a m1,c m=some (a,m1)/\f a m1=some (b,m'):=by
 unfold bind at h
 split at h
 ·cases h
 ·exact⟨_,_,‹_›,h⟩
end MM
theorem bj{α β:Type}{o:Option α}{f:α->Option β}{r:β}(h:o.bind f=some r):∃x,o=some x/\f x=some r:=by
 cases o with
 |none=>exact cj h
 |some x=>exact⟨x,rfl,h⟩
structure Sg where
 ks:List Str
 gs:List Str
 nm:List (Str×NameKind)
noncomputable def slot(fr:av)(i:Nat):Option MV:=match fr[i]? with
 |some o=>o
 |none=>none
def yY(ρ:Nat->Addr)(n:Nat)(h:Heap):Option MV->Option Value->Prop
 |none,_=>True
 |some x,o=>∃v,o=some v/\a_ ρ n h x v
theorem yY.mono{ρ ρ':Nat->Addr}{n n':Nat}{h h':Heap}(k:lr ρ n h ρ' n' h'):∀ {x:Option MV} {o:Option Value},yY ρ n h x o->yY ρ' n' h' x o
 |none,_,_=>trivial
 |some _,_,⟨v,e,r⟩=>⟨v,e,r.mono k⟩
structure yZ (sg:Sg) (env:Env):Prop where
 kind:env.scope.kind= .function
 nm:env.scope.names=sg.nm
 PB:env.globals=mainGlobals
 bui:env.builtins=builtinsNs
 vars:∀x,x∈sg.ks->(sg.nm.lookup x=some .local\/sg.nm.lookup x=some .cell)
 T_:∀x,x∈sg.gs->sg.nm.lookup x=some .globalImplicit
 nd:sg.ks.Nodup
 dbk:∀x,x∈sg.ks->(x==("__debug__":Str))=false
 dbg:∀x,x∈sg.gs->(x==("__debug__":Str))=false
def Own(env:Env)(a:Addr):Prop:=a=env.locals\/∃x,env.cells.lookup x=some a
structure dw (sg:Sg) (env:Env) (fr:av) (g:Heap) (s:Shared) (ρ:Nat->Addr) (n:Nat):Prop where
 ev:yZ sg env
 loc:∃mp,s.heap.Ns env.locals mp/\∀i x,sg.ks[i]? =some x->sg.nm.lookup x=some .local->yY ρ n s.heap (slot fr i) (mp x)
 y0:∀i x,sg.ks[i]? =some x->sg.nm.lookup x=some .cell->∃a v,env.cells.lookup x=some a/\s.heap.IsCell a v/\yY ρ n s.heap (slot fr i) v
 own:∀a,Own env a->g.get? a=none/\(∀i,i<n->ρ i≠a)/\∃o,s.heap.get? a=some o
 ap:∀x y a,env.cells.lookup x=some a->env.cells.lookup y=some a->x=y
section
variable {prog:Program}{w:World}{g:Heap}{s s':Shared}{ρ ρ':Nat->Addr}{m m':MH}{sg:Sg}{env:Env}{fr:av}
theorem Hs{h h':Heap}{a:Addr}{mp:Str->Option Value}(x:h.Ns a mp)(k:∀o,h.get? a=some o->h'.get? a=some o):h'.Ns a mp:=x.imp fun o=>Exists.imp fun ψ=>Exists.imp fun ψ=>And.imp_left (k o)
theorem uY{h h':Heap}{a:Addr}{v:Option Value}(x:h.IsCell a v)(k:∀o,h.get? a=some o->h'.get? a=some o):h'.IsCell a v:=x.imp fun o=>And.imp_left (k o)
theorem dw.dP(F:dw sg env fr g s ρ m.n)(V:dh fk s ρ m s' ρ' m'):dw sg env fr g s' ρ' m'.n:=by
 have kp:∀a,Own env a->∀o,s.heap.get? a=some o->s'.heap.get? a=some o:=fun a ha o e=>V.keep a o e (F.own a ha).2.1 (fun q=>q);refine⟨F.ev, ?_, ?_, ?_,F.ap⟩
 ·obtain⟨mp,h1,h2⟩:=F.loc;exact⟨mp,Hs h1 (kp _ (.inl rfl)),fun i x a b=>(h2 i x a b).mono V.mono⟩
 ·intro i x a b;obtain⟨c,v,h1,h2,h3⟩:=F.y0 i x a b;exact⟨c,v,h1,uY h2 (kp _ (.inr ⟨_,h1⟩)),h3.mono V.mono⟩
 ·intro a ha;obtain⟨h1,h2,h3⟩:=F.own a ha;obtain⟨o,ho⟩:=h3;refine⟨h1,fun i hi q=> ?_,V.alive _ _ ho⟩
  by_cases h:i<m.n
  ·exact h2 i h ((V.ix i h).symm.trans q)
  ·have:=V.new i (Nat.le_of_not_lt h) hi;rw [q,ho] at this;cases this
end
def dj(n:Nat)(A:Around):Prop:=A.depth+3*n<recursionLimit/\A.units+16*n+12<cLine/\A.handled=none
theorem dj.less{n m:Nat}{A:Around}(h:dj n A)(hm:m<=n):dj m A:=⟨by have:=h.1;exact YO hm this,by have:=h.2.1;exact YQ hm this,h.2.2⟩
theorem dj.deeper{n:Nat}{A:Around}{env:Env}(h:dj (n+1) A):dj n (A.deeper env):=⟨Rb h.1,YR h.2.1,h.2.2⟩
abbrev lu{α β:Type}(prog:Program)(w:World)(g:Heap)(T:Addr->Prop)(R:(Nat->Addr)->Nat->Heap->β->α->Prop)(s:Shared)(ρ:Nat->Addr)(m:MH)(b:β)(m':MH)(a:α)(s':Shared):Prop:=
 ∃ρ',OK prog w g s' ρ' m'/\dh T s ρ m s' ρ' m'/\R ρ' m'.n s'.heap b a
abbrev cX:Value->Shared->Prop:=fun ψ ψ=>False
def Comes{α β:Type}(R:(Nat->Addr)->Nat->Heap->β->α->Prop)(s:Shared)(ρ:Nat->Addr)(m:MH)(prog:Program)(w:World)(g:Heap)(A:Around)(r:Option (β×MH))(t:Sem α):Prop:=match r with
 |none=>True
 |some (b,m')=>ay s cX A (model prog w) (lu prog w g fk R s ρ m b m') t
abbrev Ua{α:Type}:(Nat->Addr)->Nat->Heap->α->α->Prop:=fun ψ ψ ψ b a=>a=b
def cD(n:Nat)(sg:Sg)(e:Expr)(c:av->MM MV):Prop:=
 ∀prog w A g env fr s ρ m,dj n A->OK prog w g s ρ m->dw sg env fr g s ρ m.n->Comes a_ s ρ m prog w g A (c fr m) (eval e env)
def ph(prog:Program)(w:World)(g:Heap)(n:Nat)(sg:Sg)(e:Expr)(c:av->MM MV):Prop:=
 ∀A env fr s ρ m,dj n A->OK prog w g s ρ m->dw sg env fr g s ρ m.n->Comes a_ s ρ m prog w g A (c fr m) (eval e env)
theorem cD.toG{prog:Program}{w:World}{g:Heap}{n:Nat}{sg:Sg}{e:Expr}{c:av->MM MV}(h:cD n sg e c):ph prog w g n sg e c:=fun A env fr s ρ m=>h prog w A g env fr s ρ m
def qQ(n:Nat)(sg:Sg)(e:Expr)(c:av->MM Bool):Prop:=
 ∀prog w A g env fr s ρ m,dj n A->OK prog w g s ρ m->dw sg env fr g s ρ m.n->Comes Ua s ρ m prog w g A (c fr m) (PySem.isTrue e env (eval e env))
def nN(n:Nat)(sg:Sg)(es:List Expr)(c:av->MM (List MV)):Prop:=
 ∀prog w A g env fr s ρ m pos,dj n A->OK prog w g s ρ m->dw sg env fr g s ρ m.n->Comes bI s ρ m prog w g A (c fr m) (spliced (backTo pos (starEach es env)))
def nO(op:Operator)(f:MV->MV->MM MV):Prop:=
 ∀prog w A g s ρ m x y a b,dj 0 A->OK prog w g s ρ m->a_ ρ m.n s.heap x a->a_ ρ m.n s.heap y b->Comes a_ s ρ m prog w g A (f x y m) (binaryOp op a b)
def jd(op:CmpOp)(f:MV->MV->MM Bool):Prop:=
 ∀prog w A g s ρ m x y a b,dj 0 A->OK prog w g s ρ m->a_ ρ m.n s.heap x a->a_ ρ m.n s.heap y b->Comes (fun ψ ψ ψ b a=>a=Value.bool b) s ρ m prog w g A (f x y m) (compareOp op a b)
section
variable {α β:Type}{prog:Program}{w:World}{g:Heap}{A:Around}{s s':Shared}{ρ ρ':Nat->Addr}{m m':MH}{sg:Sg}{env:Env}{fr:av}{R:(Nat->Addr)->Nat->Heap->β->α->Prop}
theorem fa{t:Sem α}{M:Model}{Q:α->Shared->Prop}{E:Value->Shared->Prop}(h:ay s cX A M Q t):ay s E A M Q t:=au h (fun ψ ψ q=>q) fun ψ ψ q=>q.elim
theorem Comes.at{t:Sem α}{b:β}{r:Option (β×MH)}(h:Comes R s ρ m prog w g A r t)(e:r=some (b,m')):ay s cX A (model prog w) (lu prog w g fk R s ρ m b m') t:=by rw [e] at h;exact h
theorem Comes.of{t:Sem α}{r:Option (β×MH)}(k:∀b m',r=some (b,m')->ay s cX A (model prog w) (lu prog w g fk R s ρ m b m') t):Comes R s ρ m prog w g A r t:=by
 cases r with
 |none=>exact True.intro
 |some x=>exact k x.1 x.2 rfl
theorem Comes.bind{γ:Type}{t:Sem α}{c:MM γ}{f:γ->MM β}(k:∀x m1,c m'=some (x,m1)->Comes R s ρ m prog w g A (f x m1) t):Comes R s ρ m prog w g A (MM.bind c f m') t:=by
 unfold MM.bind;cases h:c m' with
 |none=>exact True.intro
 |some x=>exact k x.1 x.2 h
theorem Comes.ite{t:Sem α}{r:Option (β×MH)}{c:Prop}[Decidable c](k:c->Comes R s ρ m prog w g A r t):Comes R s ρ m prog w g A (if c then r else none) t:=by
 by_cases h:c
 ·rw [if_pos h];exact k h
 ·rw [if_neg h];exact True.intro
theorem Comes.opt{γ:Type}{t:Sem α}{o:Option γ}{f:γ->Option (β×MH)}(k:∀x,o=some x->Comes R s ρ m prog w g A (f x) t):Comes R s ρ m prog w g A (o.bind f) t:=by
 cases o with
 |none=>exact True.intro
 |some x=>exact k x rfl
theorem Comes.step{t:Sem α}{b:β}{r:Option (β×MH)}(h:Comes R s ρ m prog w g A r t)(e:r=some (b,m')){K:α->Shared->Prop}
  (k:∀a s' ρ',OK prog w g s' ρ' m'->dh fk s ρ m s' ρ' m'->R ρ' m'.n s'.heap b a->K a s'):ay s cX A (model prog w) K t:=
 au (h.at e) (fun a s' q=>q.elim fun ρ' q=>k a s' ρ' q.1 q.2.1 q.2.2) fun ψ ψ q=>q
theorem Comes.pure{t:Sem α}{b:β}(S:OK prog w g s ρ m)(h:∀K:α->Shared->Prop,(∀a s',s'.heap=s.heap->s'.os=s.os->s'.gens=s.gens->R ρ m.n s.heap b a->K a s')->ay s cX A (model prog w) K t):
  Comes R s ρ m prog w g A (MM.ret b m) t:=
 h _ fun a s' h1 h2 h3 r=>⟨ρ,S.grow (fun a o e=>by rw [h1];exact e),dh.grow (fun a o e=>by rw [h1];exact e) h2 h3,by rw [h1];exact r⟩
end
noncomputable def rd(fr:av)(i:Nat):MM MV:=fun m=>match slot fr i with
 |some v=>some (v,m)
 |none=>none
noncomputable def Kc{α:Type}(a:α):av->MM α:=fun ψ=>MM.ret a
noncomputable def Rd(i:Nat):av->MM MV:=fun fr=>rd fr i
noncomputable def oC{α β:Type}(c:av->MM β)(f:β->MM α):av->MM α:=fun fr=>MM.bind (c fr) f
noncomputable def tj{α:Type}(c d:av->MM MV)(f:MV->MV->MM α):av->MM α:=fun fr=>MM.bind (c fr) fun a=>MM.bind (d fr) (f a)
noncomputable def rB(b:Bool):MM MV:=MM.ret (.bool b)
noncomputable def rN(b:Bool):MM Bool:=MM.ret (!b)
noncomputable def Jh(c d:av->MM Bool):av->MM Bool:=fun fr=>MM.bind (c fr) fun b=>bif b then d fr else MM.ret false
noncomputable def PC(c d:av->MM Bool):av->MM Bool:=fun fr=>MM.bind (c fr) fun b=>bif b then MM.ret true else d fr
noncomputable def PD(t:av->MM Bool)(c d:av->MM MV):av->MM MV:=fun fr=>MM.bind (t fr) fun b=>bif b then c fr else d fr
noncomputable def AC(c:av->MM MV)(cs:av->MM (List MV)):av->MM (List MV):=fun fr=>MM.bind (c fr) fun x=>MM.bind (cs fr) fun xs=>MM.ret (x::xs)
theorem L_{fr:av}{i:Nat}{m m':MH}{b:MV}(h:rd fr i m=some (b,m')):slot fr i=some b/\m'=m:=by
 unfold rd at h
 split at h
 ·cases h;exact⟨‹_›,rfl⟩
 ·cases h
section
variable {n:Nat}{sg:Sg}
theorem dI(i:Nat){x:Str}{p:Pos}(hk:sg.ks[i]? =some x):cD n sg (.Name x p) (Rd i):=by
 intro prog w A g env fr s ρ m hA S F;refine .of fun b m' e=> ?_;obtain⟨h1,rfl⟩:=L_ e;have hm:=jB hk;rcases F.ev.vars x hm with hl|hl
 ·obtain⟨mp,hn,hr⟩:=F.loc;have:=hr i x hk hl;rw [h1] at this;obtain⟨v,e1,r⟩:=this;exact aj (wpAny_Name (wpAny_loadName_local F.ev.kind (by unfold Env.kindOf;rw [F.ev.nm];exact hl) hn e1 ⟨ρ,S,.refl,r⟩) (F.ev.dbk x hm))
 ·obtain⟨a,v',h2,h3,h4⟩:=F.y0 i x hk hl;rw [h1] at h4;obtain⟨v,rfl,r⟩:=h4;exact aj (wpAny_Name (wpAny_loadName_cell F.ev.kind (by unfold Env.kindOf;rw [F.ev.nm];exact hl) h2 h3 ⟨ρ,S,.refl,r⟩) (F.ev.dbk x hm))
end
def Ub(w:World)(x:Str)(v:Value):Prop:=nsIn (KK w) mainGlobals x=some (some v)\/(nsIn (KK w) mainGlobals x=some none/\bootBuiltins x=some v/\x≠"__name__")
def bF(x:Str)(b:MV):Prop:=∀w,∃v,Ub w x v/\∀ρ n h,a_ ρ n h b v
section
variable {n:Nat}{sg:Sg}
theorem bA{x:Str}{p:Pos}{v:MV}(hk:x∈sg.gs)(hv:bF x v):cD n sg (.Name x p) (Kc v):=by
 intro prog w A g env fr s ρ m hA S F;refine Comes.pure S fun K k=> ?_;obtain⟨v',hg,hr⟩:=hv w;have hl:env.kindOf x=some .globalImplicit:=by unfold Env.kindOf;rw [F.ev.nm];exact F.ev.T_ x hk
 obtain⟨mg,mb,G,Bu,hB⟩:=S.now.top;rcases hg with h|⟨h1,h2,h3⟩
 ·exact aj (Name_function_global F.ev.kind hl (loadGlobal_global (F.ev.PB▸G) (mg_of S.now.X G h) (k _ _ rfl rfl rfl (hr _ _ _))) (F.ev.dbg x hk))
 ·exact aj (Name_function_global F.ev.kind hl (loadGlobal_builtin (F.ev.PB▸G) (mg_none_of S.now.X G h1) (F.ev.bui▸Bu) ((hB x h3).trans h2) (k _ _ rfl rfl rfl (hr _ _ _))) (F.ev.dbg x hk))
theorem ag{i:Int}{k:Nat}{p:Pos}:cD n sg (.Constant (.int i) k p) (Kc (.int i)):=fun prog w A g env fr s ρ m hA S F=>
 Comes.pure S fun K k=>aj (wpAny_Constant_int (k _ _ rfl rfl rfl (.int _ _)))
theorem cH{i:Str}{k:Nat}{p:Pos}:cD n sg (.Constant (.str i) k p) (Kc (.str i)):=fun prog w A g env fr s ρ m hA S F=>
 Comes.pure S fun K k=>aj (wpAny_Constant_str (k _ _ rfl rfl rfl (.str _ _)))
theorem d9{k:Nat}{p:Pos}:cD n sg (.Constant .none k p) (Kc .none):=fun prog w A g env fr s ρ m hA S F=>
 Comes.pure S fun K k=>aj (wpAny_Constant_none (k _ _ rfl rfl rfl .none))
theorem je{b:Bool}{k:Nat}{p:Pos}:cD n sg (.Constant (.bool b) k p) (Kc (.bool b)):=fun prog w A g env fr s ρ m hA S F=>
 Comes.pure S fun K k=>aj (wpAny_Constant_bool (k _ _ rfl rfl rfl (.bool _)))
theorem ak{l r:Expr}{op:Operator}{p:Pos}{cl cr:av->MM MV}{f:MV->MV->MM MV}(hl:cD n sg l cl)(hr:cD n sg r cr)(ho:nO op f):
  cD n sg (.BinOp l op r p) (tj cl cr f):=by
 intro prog w A g env fr s ρ m hA S F;refine .bind fun x m1 e1=> .bind fun y m2 e2=> .of fun b m' e=> ?_;refine Hl ((hl _ _ A _ _ _ _ _ _ hA S F).step e1 fun a s1 ρ1 S1 V1 r1=> ?_);refine(hr _ _ A _ _ _ _ _ _ hA S1 (F.dP V1)).step e2 fun c s2 ρ2 S2 V2 r2=> ?_;refine(ho _ _ A _ _ _ _ _ _ _ _ (hA.less (Nat.zero_le _)) S2 (r1.mono V2.mono) r2).step e fun v s3 ρ3 S3 V3 r3=>⟨ρ3,S3,(V1.comp V2).comp V3,r3⟩
theorem BK{l r:Expr}{op:CmpOp}{p:Pos}{cl cr:av->MM MV}{f:MV->MV->MM Bool}(hl:cD n sg l cl)(hr:cD n sg r cr)(ho:jd op f)(hm:behindInMarks op r=false):
  cD n sg (.Compare l [op] [r] p) (oC (tj cl cr f) rB):=by
 intro prog w A g env fr s ρ m hA S F;refine .bind fun z m3 e=> ?_;obtain⟨x,m1,e1,e⟩:=MM.bind_some e;obtain⟨y,m2,e2,e3⟩:=MM.bind_some e;refine tK ((hl _ _ A _ _ _ _ _ _ hA S F).step e1 fun a s1 ρ1 S1 V1 r1=> ?_) hm;refine(hr _ _ A _ _ _ _ _ _ hA S1 (F.dP V1)).step e2 fun c s2 ρ2 S2 V2 r2=> ?_;refine(ho _ _ A _ _ _ _ _ _ _ _ (hA.less (Nat.zero_le _)) S2 (r1.mono V2.mono) r2).step e3 fun v s3 ρ3 S3 V3 r3=>⟨ρ3,S3,(V1.comp V2).comp V3,by rw [r3];exact .bool _⟩
theorem aD{l r:Expr}{op:CmpOp}{p:Pos}{cl cr:av->MM MV}{f:MV->MV->MM Bool}(hl:cD n sg l cl)(hr:cD n sg r cr)(ho:jd op f)(hm:behindInMarks op r=false):
  qQ n sg (.Compare l [op] [r] p) (tj cl cr f):=by
 intro prog w A g env fr s ρ m hA S F;refine .bind fun x m1 e1=> .bind fun y m2 e2=> .of fun b m' e=> ?_;refine rG ((hl _ _ A _ _ _ _ _ _ hA S F).step e1 fun a s1 ρ1 S1 V1 r1=> ?_) hm;refine(hr _ _ A _ _ _ _ _ _ hA S1 (F.dP V1)).step e2 fun c s2 ρ2 S2 V2 r2=> ?_;refine(ho _ _ A _ _ _ _ _ _ _ _ (hA.less (Nat.zero_le _)) S2 (r1.mono V2.mono) r2).step e fun v s3 ρ3 S3 V3 r3=> ?_;subst r3;exact aj (wpAny_truthy_bool ⟨ρ3,S3,(V1.comp V2).comp V3,rfl⟩)
theorem gC{l r₁ r₂:Expr}{o₁ o₂:CmpOp}{p:Pos}{cl c1 c2:av->MM MV}{f1 f2:MV->MV->MM Bool}(hl:cD n sg l cl)(h1:cD n sg r₁ c1)(h2:cD n sg r₂ c2)(uZ:jd o₁ f1)(pj:jd o₂ f2)
  (hm:lastMarks [o₁,o₂] [r₁,r₂]=false):
  qQ n sg (.Compare l [o₁,o₂] [r₁,r₂] p) fun fr=>MM.bind (cl fr) fun a=>MM.bind (c1 fr) fun b=>MM.bind (f1 a b) fun t=>bif t then MM.bind (c2 fr) fun d=>f2 b d else MM.ret false:=by
 intro prog w A g env fr s ρ m hA S F;refine .bind fun x m1 e1=> .bind fun y m2 e2=> .bind fun t m3 e3=> .of fun b m' e=> ?_;refine yW hm ((hl _ _ A _ _ _ _ _ _ hA S F).step e1 fun a s1 ρ1 S1 V1 r1=> ?_);refine(h1 _ _ A _ _ _ _ _ _ hA S1 (F.dP V1)).step e2 fun c s2 ρ2 S2 V2 r2=> ?_;refine(uZ _ _ A _ _ _ _ _ _ _ _ (hA.less (Nat.zero_le _)) S2 (r1.mono V2.mono) r2).step e3 fun v s3 ρ3 S3 V3 r3=> ?_;subst r3;refine aj (wpAny_truthy_bool ?_);cases t with
 |false=>
  obtain⟨rfl,rfl⟩:=MM.lD e;rw [if_neg (by decide)];exact⟨ρ3,S3,(V1.comp V2).comp V3,rfl⟩
 |true=>
  rw [if_pos rfl];obtain⟨z,m4,e4,e⟩:=MM.bind_some e;have F2:=(F.dP V1).dP V2;refine(h2 _ _ A _ _ _ _ _ _ hA S3 (F2.dP V3)).step e4 fun d s4 ρ4 S4 V4 r4=> ?_;refine(pj _ _ A _ _ _ _ _ _ _ _ (hA.less (Nat.zero_le _)) S4 ((r2.mono V3.mono).mono V4.mono) r4).step e fun v s5 ρ5 S5 V5 r5=> ?_;subst r5;exact aj (wpAny_truthy_bool ⟨ρ5,S5,(((V1.comp V2).comp V3).comp V4).comp V5,rfl⟩)
theorem fZ{x:Expr}{p:Pos}{c:av->MM Bool}(h:qQ n sg x c):qQ n sg (.UnaryOp .Not x p) (oC c rN):=by
 intro prog w A g env fr s ρ m hA S F;refine .bind fun x m1 e1=> ?_;refine xJ ((h _ _ A _ _ _ _ _ _ hA S F).step e1 fun a s1 ρ1 S1 V1 r1=>⟨ρ1,S1,V1,by rw [r1]⟩)
def y4(op:BoolOp)(n:Nat)(sg:Sg)(es:List Expr)(c:av->MM Bool):Prop:=
 ∀prog w A g env fr s ρ m,dj n A->OK prog w g s ρ m->dw sg env fr g s ρ m.n->Comes Ua s ρ m prog w g A (c fr m) (allTrue op es env)
theorem bG{op:BoolOp}{es:List Expr}{p:Pos}{c:av->MM Bool}(h:y4 op n sg es c):qQ n sg (.BoolOp op es p) c:=by
 intro prog w A g env fr s ρ m hA S F;exact .of fun b m' e=>t_ ((h _ _ A _ _ _ _ _ _ hA S F).at e)
theorem bS{x:Expr}{es:List Expr}{c cs:av->MM Bool}(h:qQ n sg x c)(hs:y4 .And n sg es cs):y4 .And n sg (x::es) (Jh c cs):=by
 intro prog w A g env fr s ρ m hA S F;refine .bind fun x m1 e1=> .of fun b m' e=> ?_;refine ri ((h _ _ A _ _ _ _ _ _ hA S F).step e1 fun a s1 ρ1 S1 V1 r1=> ?_);subst r1;cases a with
 |false=>
  obtain⟨rfl,rfl⟩:=MM.lD e;exact⟨ρ1,S1,V1,rfl⟩
 |true=>exact(hs _ _ A _ _ _ _ _ _ hA S1 (F.dP V1)).step e fun v s2 ρ2 S2 V2 r2=>⟨ρ2,S2,V1.comp V2,r2⟩
theorem dz:y4 .And n sg [] (Kc true):=by
 intro prog w A g env fr s ρ m hA S F;exact Comes.pure S fun K k=>aj (wpAny_allTrue_And_nil (k _ _ rfl rfl rfl rfl))
theorem b4{x:Expr}{es:List Expr}{c cs:av->MM Bool}(h:qQ n sg x c)(hs:y4 .Or n sg es cs):y4 .Or n sg (x::es) (PC c cs):=by
 intro prog w A g env fr s ρ m hA S F;refine .bind fun x m1 e1=> .of fun b m' e=> ?_;refine rH ((h _ _ A _ _ _ _ _ _ hA S F).step e1 fun a s1 ρ1 S1 V1 r1=> ?_);subst r1;cases a with
 |true=>
  obtain⟨rfl,rfl⟩:=MM.lD e;exact⟨ρ1,S1,V1,rfl⟩
 |false=>exact(hs _ _ A _ _ _ _ _ _ hA S1 (F.dP V1)).step e fun v s2 ρ2 S2 V2 r2=>⟨ρ2,S2,V1.comp V2,r2⟩
theorem dX:y4 .Or n sg [] (Kc false):=by
 intro prog w A g env fr s ρ m hA S F;exact Comes.pure S fun K k=>aj (wpAny_allTrue_Or_nil (k _ _ rfl rfl rfl rfl))
noncomputable def u0(x:MV):MM Bool:=fun m=>x.bool?.bind fun b=>some (b,m)
theorem gu{x:Expr}{c:av->MM MV}(h:cD n sg x c)(he:∀env,PySem.isTrue x env (eval x env)=(do let v <- eval x env;standAt x.pos;holding [v] (truthy v))):qQ n sg x (oC c u0):=by
 intro prog w A g env fr s ρ m hA S F;refine .bind fun y m1 e1=> .of fun b m' e=> ?_;refine uS ((h _ _ A _ _ _ _ _ _ hA S F).step e1 fun a s1 ρ1 S1 V1 r1=> ?_) (he env);obtain⟨b',hb,e⟩:=bj e;cases e;obtain rfl:=r1.CP hb;exact aj (wpAny_truthy_bool ⟨ρ1,S1,V1,rfl⟩)
theorem kO{t b o:Expr}{p:Pos}{ct:av->MM Bool}{cb co:av->MM MV}(ht:qQ n sg t ct)(hb:cD n sg b cb)(ho:cD n sg o co):
  cD n sg (.IfExp t b o p) (PD ct cb co):=by
 intro prog w A g env fr s ρ m hA S F;refine .bind fun x m1 e1=> .of fun b m' e=> ?_;refine Hm ((ht _ _ A _ _ _ _ _ _ hA S F).step e1 fun a s1 ρ1 S1 V1 r1=> ?_);subst r1;cases a with
 |true=>exact(hb _ _ A _ _ _ _ _ _ hA S1 (F.dP V1)).step e fun v s2 ρ2 S2 V2 r2=>⟨ρ2,S2,V1.comp V2,r2⟩
 |false=>exact(ho _ _ A _ _ _ _ _ _ hA S1 (F.dP V1)).step e fun v s2 ρ2 S2 V2 r2=>⟨ρ2,S2,V1.comp V2,r2⟩
theorem ab:nN n sg [] (Kc []):=by
 intro prog w A g env fr s ρ m pos hA S F;exact Comes.pure S fun K k=>uU (k _ _ rfl rfl rfl .nil)
theorem eS{e:Expr}{es:List Expr}{c:av->MM MV}{cs:av->MM (List MV)}(h:cD n sg e c)(hs:nN n sg es cs)(he:∀env,starEach (e::es) env=(false,eval e env)::starEach es env):
  nN n sg (e::es) (AC c cs):=by
 intro prog w A g env fr s ρ m pos hA S F;refine .bind fun x m1 e1=> .bind fun y m2 e2=> ?_;refine oK ((h _ _ A _ _ _ _ _ _ hA S F).step e1 fun a s1 ρ1 S1 V1 r1=> ?_) (he env);exact(hs _ _ A _ _ _ _ _ _ pos hA S1 (F.dP V1)).step e2 fun v s2 ρ2 S2 V2 r2=>⟨ρ2,S2,V1.comp V2,.cons (r1.mono V2.mono) r2⟩
theorem CQ{prog:Program}{w:World}{g:Heap}{A:Around}{s:Shared}{ρ:Nat->Addr}{m:MH}{vs:List Value}{xs:List MV}{K:Value->Shared->Prop}(S:OK prog w g s ρ m)(hz:vs.length<=1000)(r:bI ρ m.n s.heap xs vs)
  (k:∀a s',OK prog w g s' ρ m->dh fk s ρ m s' ρ m->a_ ρ m.n s'.heap (.tup xs) (.ref a)->K (.ref a) s'):ay s cX A (model prog w) K (newTuple vs):=by
 refine aj (wpAny_newObj_type ?_ (by show vs.toArray.size<=sizeLine;rw [fW,sizeLine_eq];exact Rq hz));have hs:Sub s.heap (s.heap.push (tM vs 0)):=fun a o e=>gS _ e;have V:dh fk s ρ m {s with heap:=s.heap.push (tM vs 0)} ρ m:= .grow hs rfl rfl;exact k _ _ (S.grow hs) V (.tup (e:=0) (iQ _ rfl) (r.mono V.mono))
noncomputable def Mc(xs:List MV):MM MV:=fun m=>if xs.length<=1000 then some (.tup xs,m) else none
theorem b6{es:List Expr}{k:Nat}{p:Pos}{cs:av->MM (List MV)}(hs:nN n sg es cs):cD n sg (.Tuple es k p) (oC cs Mc):=by
 intro prog w A g env fr s ρ m hA S F;refine .bind fun xs m1 e1=> .ite fun hz=> ?_;refine Hp ((hs _ _ A _ _ _ _ _ _ p hA S F).step e1 fun a s1 ρ1 S1 V1 r1=> ?_);exact CQ S1 (by rw [<- r1.length];exact hz) r1 fun a s2 S2 V2 r2=>⟨ρ1,S2,V1.comp V2,r2⟩
theorem EO{prog:Program}{w:World}{g:Heap}{A:Around}{s:Shared}{ρ:Nat->Addr}{m:MH}{vs:List Value}{xs:List MV}{K:Value->Shared->Prop}(S:OK prog w g s ρ m)(hz:vs.length<=1000)(r:bI ρ m.n s.heap xs vs)
  (k:∀ρ' s',OK prog w g s' ρ' (m.new (.list xs))->dh fk s ρ m s' ρ' (m.new (.list xs))->K (.ref (ρ' m.n)) s'):ay s cX A (model prog w) K (newList vs):=by
 refine aj (wpAny_newObj_type ?_ (by show vs.toArray.size<=sizeLine;rw [fW,sizeLine_eq];exact Rq hz));have hs:Sub s.heap (s.heap.push (fO vs 0)):=fun a o e=>gS _ e;have V:dh fk s ρ m {s with heap:=s.heap.push (fO vs 0)} ρ m:= .grow hs rfl rfl;have:=k (eP ρ m.n s.heap.objs.size) _ ((S.grow hs).new (a:=s.heap.objs.size) (iQ _ rfl) (S.pg (cA _)) (S.lC (cA _)) fun M=>⟨vs,0,rfl,(r.mono V.mono).mono M⟩) (V.v8 (cA _));rw [ei] at this;exact this
noncomputable def Me(xs:List MV):MM MV:=fun m=>if xs.length<=1000 then some (.obj m.n,m.new (.list xs)) else none
theorem cO{es:List Expr}{p:Pos}{cs:av->MM (List MV)}(hs:nN n sg es cs):cD n sg (.List es p) (oC cs Me):=by
 intro prog w A g env fr s ρ m hA S F;refine .bind fun xs m1 e1=> .ite fun hz=> ?_;refine Kl ((hs _ _ A _ _ _ _ _ _ p hA S F).step e1 fun a s1 ρ1 S1 V1 r1=> ?_);exact EO S1 (by rw [<- r1.length];exact hz) r1 fun ρ2 s2 S2 V2=>⟨ρ2,S2,V1.comp V2,.obj (gA _)⟩
end
end
section
variable {k k':Str}{a v:Value}{fs r:List (Str×MV)}{x y:MV}{es:List DictEntry}{ρ:Nat->Addr}{n:Nat}{h:Heap}{cs:List Addr}{p p':Pos}{c:av->MM MV}{α:Type}{o:Obj}{st:Stmt}{ss:List Stmt}{e:Expr}
noncomputable def lx(k:Str):List (Str×MV)->Option MV
 | []=>none
 |(k',v)::r=>if k'=k then some v else lx k r
noncomputable def u3(k:Str)(x:MV):List (Str×MV)->List (Str×MV)
 | []=> [(k,x)]
 |(k',v)::r=>if k'=k then(k',x)::r else(k',v)::u3 k x r
theorem Ht{v:MV}:lx k ((k',v)::r)=if k'=k then some v else lx k r:=rfl
theorem y7{v:MV}:u3 k x ((k',v)::r)=if k'=k then(k',x)::r else(k',v)::u3 k x r:=rfl
section
variable {w:World}{ρ:Nat->Addr}{n:Nat}{h:Heap}
theorem gK.noRef(R:gK w ρ n h fs es):es.any (·.refKey)=false:=by
 induction R with
 |nil=>rfl
 |cons _ _ ih=>rw [List.any_cons,ih];rfl
theorem gK.find(R:gK w ρ n h fs es):match lx k fs with
  |some x=>∃e,es.find? (fun y=>y.key.isStr k)=some e/\a_ ρ n h x e.val
  |none=>es.find? (fun y=>y.key.isStr k)=none:=by
 induction R with
 |nil=>rfl
 | @cons k' t x v fs es r _ ih=>
  rw [Ht]
  by_cases hk:k'=k
  ·subst hk;rw [if_pos rfl];exact⟨_,List.find?_cons_of_pos (by simp [Value.isStr]),r⟩
  ·rw [if_neg hk,List.find?_cons_of_neg (by simpa [Value.isStr] using hk)];exact ih
theorem gK.get(R:gK w ρ n h fs es)(e:lx k fs=some x):∃v,getL k es=some (some v)/\a_ ρ n h x v:=by
 have:=R.find (k:=k);rw [e] at this;obtain⟨y,h1,h2⟩:=this;exact⟨y.val,by unfold getL;rw [h1],h2⟩
theorem gK.Mf(R:gK w ρ n h fs es)(e:lx k fs=none):getL k es=some none:=by
 have:=R.find (k:=k);rw [e] at this;unfold getL;simp only [this,R.noRef,Bool.false_eq_true,if_false]
theorem gK.put{t:Tok}(R:gK w ρ n h fs es)(r:a_ ρ n h x v):gK w ρ n h (u3 k x fs) (putL k (PyData.keyHash w.params k) (.str k t) v es):=by
 induction R with
 |nil=>exact .cons r .nil
 | @cons k' t' y u fs es q _ ih=>
  rw [y7]
  by_cases hk:k'=k
  ·subst hk;rw [if_pos rfl];simp only [putL,Value.isStr,beq_self_eq_true,if_true];exact .cons r ‹_›
  ·rw [if_neg hk];have hb:(Value.str k' t').isStr k=false:=by simpa [Value.isStr] using hk
   simp only [putL,hb,Bool.false_eq_true,if_false];exact .cons q ih
theorem gK.length(R:gK w ρ n h fs es):es.length=fs.length:=by
 induction R with
 |nil=>rfl
 |cons _ _ ih=>simp [ih]
end
theorem u4(k:Str)(x:MV):∀fs:List (Str×MV),(u3 k x fs).length<=fs.length+1
 | []=>dT _
 |(k',v)::r=>by
  rw [y7]
  split
  ·simp
  ·have:=u4 k x r;simp only [List.length_cons];exact Z5 this
noncomputable def MV.plain(x:MV):Bool:=Nat.blt x.ctorIdx 8
theorem a_.handed(r:a_ ρ n h x v)(hp:x.plain=true):handedIn v=true:=
 r.casesOn (motive_1:=fun x v ψ=>x.plain=true->handedIn v=true) (fun ψ=>rfl) (fun ψ ψ=>rfl) (fun ψ ψ ψ=>rfl) (fun ψ ψ ψ=>rfl) (fun ψ ψ ψ=>rfl) (fun ψ ψ ψ=>rfl) (fun ψ ψ=>rfl) (fun ψ ψ=>rfl) (fun ψ hp=>Bool.noConfusion hp) hp
noncomputable def u5(cs:List Addr)(k:Str)(x:MV):MM MV:=fun m=>x.ig.bind fun i=>(m.ob i).inst?.bind fun C=>if C∈cs then(m.ob (i+1)).EN.bind fun fs=>(lx k fs).bind fun v=>if v.plain then some (v,m) else none else none
noncomputable def pW(cs:List Addr)(k:Str)(x y:MV):MM Unit:=fun m=>x.ig.bind fun i=>(m.ob i).inst?.bind fun C=>if C∈cs/\i<m.n then(m.ob (i+1)).EN.bind fun fs=>if fs.length<=100 then some ((),m.set (i+1) (.dO (u3 k y fs))) else none else none
noncomputable def Mg(K:Frag)(C:Addr)(k:Str):Bool:=plainGet K C k&&hasDictIn K C&&(findIn K (.ref C) k).any fun a=>noGet K a
def fJ(C:Addr)(k:Str):Prop:=∀w,Mg (KK w) C k=true
noncomputable def setB(K:Frag)(C:Addr)(k:Str):Bool:=findIn K (.ref C) "__setattr__"==some (some (.builtin "object.__setattr__"))&&plainOver K C&&takerIn K C k==some none&&hasDictIn K C
def fo(C:Addr)(k:Str):Prop:=∀w,setB (KK w) C k=true
noncomputable def Hu(K:Frag)(C:Addr)(k:Str)(f:Addr):Bool:=plainGet K C k&&findIn K (.ref C) k==some (some (.ref f))&&typeIn K (.ref f)==some (.type "function")
def fS(C:Addr)(k:Str)(f:Addr):Prop:=∀w,Hu (KK w) C k f=true
section
variable {prog:Program}{w:World}{g:Heap}{A:Around}{s s':Shared}{ρ ρ':Nat->Addr}{m m':MH}{E:Value->Shared->Prop}
theorem OK.inst(S:OK prog w g s ρ m){i:Nat}{C:Addr}(hi:i<m.n)(h1:m.ob i= .inst C)(h2:m.ob (i+1)= .dO fs):
  i+1<m.n/\∃es e,s.heap.get? (ρ (i+1))=some (dictOf es e)/\gK w ρ m.n s.heap fs es/\W.InstAt s.heap (ρ i) (instObj C (ρ (i+1))) C (some (dictOf es e)):=by
 obtain⟨o,ho,r⟩:=S.ob i hi;rw [h1] at r;obtain⟨hl,rfl⟩:=r;obtain⟨o',hF,r'⟩:=S.ob (i+1) hl;rw [h2] at r';obtain⟨es,e,rfl,R⟩:=r';exact⟨hl,es,e,hF,R,ho,rfl,rfl,hF⟩
theorem Mh{ex:Bool}(hc:∀C,C∈cs->fJ C k)(S:OK prog w g s ρ m)(r:a_ ρ m.n s.heap x a):Comes a_ s ρ m prog w g A (u5 cs k x m) (getAttr a k ex):=
 .opt fun i hx=> .opt fun C h1=> .ite fun hC=> .opt fun fs h2=> .opt fun v h3=> .ite fun hp=>by
  obtain⟨hi,rfl⟩:=r.ij hx;have h1:=MO.instI h1;have h2:=MO.L9 h2;obtain⟨hl,es,ep,ho,R,I⟩:=S.inst hi h1 h2;have EP:=hc C hC w;simp only [Mg,Bool.and_eq_true] at EP;obtain⟨⟨q1,q2⟩,q3⟩:=EP;obtain⟨aa,q4,q5⟩:=any_some q3;obtain⟨u,hu,ru⟩:=R.get h3;exact aj (get_value S.now.X I (plainGet_of q1).1 (findObj_own q2 q4 q5 ((lookIn_dict ..).trans hu)) (ru.handed hp) ⟨ρ,S.grow (fun ψ ψ e=>e),.grow (fun ψ ψ e=>e) rfl rfl,ru⟩)
theorem Mi(hc:∀C,C∈cs->fo C k)(S:OK prog w g s ρ m)(r:a_ ρ m.n s.heap x a)(r2:a_ ρ m.n s.heap y v):Comes (fun ψ ψ ψ ψ ψ=>True) s ρ m prog w g A (pW cs k x y m) (setAttr a k v):=
 .opt fun i hx=> .opt fun C h1=> .ite fun hC=> .opt fun fs h2=> .ite fun hz=>by
  obtain⟨hi,rfl⟩:=r.ij hx;have h1:=MO.instI h1;have h2:=MO.L9 h2;obtain⟨hl,es,n,ho,R,I⟩:=S.inst hi h1 h2;have EP:=hc C hC.1 w;simp only [setB,Bool.and_eq_true,beq_iff_eq] at EP;obtain⟨⟨⟨q1,q2⟩,q3⟩,q4⟩:=EP;refine aj (set_plain S.now.X I q1 (osa_open (s:= {s with toks:=s.toks+1}) S.now.X I q2 q3 fun b=> ?_));obtain⟨cd,Kk,Kj⟩:=any_some q4;have D:s.heap.get? (ρ (i+1))=some (dictOf es n):=ho;have PE:(lookIn k (dictOf es n)).isSome=true:=by
   rw [lookIn_dict];unfold getL;split
   ·rfl
   ·rw [R.noRef];rfl
  have R':=R.put (k:=k) (t:=s.toks+1) r2;have e':=putName_dict k (PyData.keyHash w.params k) (.str k (s.toks+1)) v es n;have D':(s.heap.update (ρ (i+1)) (Obj.putName k (PyData.keyHash w.params k) (.str k (s.toks+1)) v)).get? (ρ (i+1))=some (dictOf (putL k (PyData.keyHash w.params k) (.str k (s.toks+1)) v es) (putN k es n)):=by
   rw [<- e'];exact Heap.get?_update_self _ D (by rw [e'];rfl)
  have Uc:=I.at_;refine aN (cP (aN (aN (wpAny_loadPart Uc (aN (looks_clsIn S.now.X Kk _ _ _ _ (fun ψ ψ e=>e) ?_))))));rw [Kj];refine cP (a:=some (ρ (i+1))) (aN (cP (aN ?_)));refine aN (aN (wpAny_askSetting (cP (aN (wpAny_mkText (aN (wpAny_loadPart D ?_)))))));dsimp only;have c:(!es.toArray.any (·.key.isStr k)&&es.toArray.any (·.refKey))=false:=by
   have hr:es.toArray.any (fun x:DictEntry=>x.refKey)=false:=by rw [List.any_toArray];exact R.noRef
   rw [hr,Bool.and_false]
  rw [aRefKeyMayBeTheName_at,c];refine wpAny_updatePart D ?_;have hz':(putL k (PyData.keyHash w.params k) (.str k (s.toks+1)) v es).length<=1000:=by rw [R'.length];have:=u4 k y fs;exact Z6 hz this
  refine aN (wpAny_lookBehind D' (pastItsLine_dict (by rw [fW,sizeLine_eq];exact Z7 hz')) ?_);have hs:Heap.SameBut (ρ (i+1)) s.heap (s.heap.update (ρ (i+1)) (Obj.putName k (PyData.keyHash w.params k) (.str k (s.toks+1)) v)):=Heap.SameBut.update ..;have hk:∀a o,a≠ρ (i+1)->s.heap.get? a=some o->(s.heap.update (ρ (i+1)) (Obj.putName k (PyData.keyHash w.params k) (.str k (s.toks+1)) v)).get? a=some o:=fun a o ha e=>(hs.2 a ha).trans e;exact cP ⟨ρ,S.put hl hk D' fun M=>⟨_,_,rfl,R'.mono M⟩,.put S hl hk ⟨_,D'⟩ rfl rfl,trivial⟩
end
section
variable {n:Nat}{sg:Sg}
theorem aq{x:Expr}(h:cD n sg x c)(hc:∀C,C∈cs->fJ C k)
  (he:∀env,eval (.Attribute x k p) env=(do
   let o <- eval x env
   standAt p.atName
   let r <- holding [o] (getAttr o k true)
   letTemporaryGo x o r
   pure r)):cD n sg (.Attribute x k p) (oC c (u5 cs k)):=by
 intro prog w A g env fr s ρ m hA S F;exact .bind fun y m1 e1=> .of fun b m' e=>yU ((h _ _ A _ _ _ _ _ _ hA S F).step e1 fun a s1 ρ1 S1 V1 r1=>(Mh hc S1 r1).step e fun v s2 ρ2 S2 V2 r2=>⟨ρ2,S2,V1.comp V2,r2⟩) (he env)
end
inductive eG where
 |next|brk|cont|ret (v:MV)
noncomputable abbrev SM:=av->MH->Option (eG×av×MH)
inductive rI (ρ:Nat->Addr) (n:Nat) (h:Heap):eG->Flow->Prop where
 |next:rI ρ n h .next .next
 |brk:rI ρ n h .brk .brk
 |cont:rI ρ n h .cont .cont
 |ret {x:MV} {v:Value}:a_ ρ n h x v->rI ρ n h (.ret x) (.ret v)
theorem rI.Mj{f:Flow}(r:rI ρ n h .next f):f= .next:=by cases r;rfl
abbrev CR(prog:Program)(w:World)(g:Heap)(sg:Sg)(env:Env)(s:Shared)(ρ:Nat->Addr)(m:MH)(f:eG)(fr:av)(m':MH)(fl:Flow)(s':Shared):Prop:=
 ∃ρ',OK prog w g s' ρ' m'/\dh (Own env) s ρ m s' ρ' m'/\rI ρ' m'.n s'.heap f fl/\dw sg env fr g s' ρ' m'.n
def eX(prog:Program)(w:World)(g:Heap)(A:Around)(sg:Sg)(env:Env)(t:Sem Flow)(r:Option (eG×av×MH))(s:Shared)(ρ:Nat->Addr)(m:MH):Prop:=match r with
 |none=>True
 |some (f,fr,m')=>ay s cX A (model prog w) (CR prog w g sg env s ρ m f fr m') t
def fX(n:Nat)(sg:Sg)(st:Stmt)(c:SM):Prop:=
 ∀prog w A g env fr s ρ m,dj n A->OK prog w g s ρ m->dw sg env fr g s ρ m.n->eX prog w g A sg env (exec st env) (c fr m) s ρ m
def qR(n:Nat)(sg:Sg)(ss:List Stmt)(c:SM):Prop:=
 ∀prog w A g env fr s ρ m,dj n A->OK prog w g s ρ m->dw sg env fr g s ρ m.n->eX prog w g A sg env (execs ss env) (c fr m) s ρ m
namespace SM
noncomputable def ret(f:eG):SM:=fun fr m=>some (f,fr,m)
noncomputable def fail:SM:=fun ψ ψ=>none
noncomputable def seq(c d:SM):SM:=fun fr m=>match c fr m with
 |some (.next,fD,m')=>d fD m'
 |r=>r
noncomputable def use(c:av->MM MV)(k:MV->SM):SM:=fun fr m=>match c fr m with
 |some (v,m')=>k v fr m'
 |none=>none
noncomputable def test(c:av->MM Bool)(a b:SM):SM:=fun fr m=>match c fr m with
 |some (v,m')=>bif v then a fr m' else b fr m'
 |none=>none
noncomputable def put(i:Nat)(v:MV):SM:=fun fr m=>some (.next,fr.set i (some v),m)
noncomputable def act{α:Type}(c:MM α):SM:=fun fr m=>match c m with
 |some (_,m')=>some (.next,fr,m')
 |none=>none
end SM
section
variable {prog:Program}{w:World}{g:Heap}{A:Around}{sg:Sg}{env:Env}{s:Shared}{ρ:Nat->Addr}{m m1 m':MH}{t:Sem Flow}{f:eG}{fr fD:av}{r:Option (eG×av×MH)}
theorem eX.at(h:eX prog w g A sg env t r s ρ m)(e:r=some (f,fD,m')):ay s cX A (model prog w) (CR prog w g sg env s ρ m f fD m') t:=by rw [e] at h;exact h
theorem eX.of(k:∀f fD m',r=some (f,fD,m')->ay s cX A (model prog w) (CR prog w g sg env s ρ m f fD m') t):eX prog w g A sg env t r s ρ m:=by
 cases r with
 |none=>exact True.intro
 |some x=>exact k x.1 x.2.1 x.2.2 rfl
theorem eX.use{k:MV->SM}(h:∀v m2,c fr m1=some (v,m2)->eX prog w g A sg env t (k v fr m2) s ρ m):eX prog w g A sg env t (SM.use c k fr m1) s ρ m:=by
 unfold SM.use;cases q:c fr m1 with
 |none=>exact True.intro
 |some x=>exact h x.1 x.2 q
theorem eX.act{c:MM α}(h:∀v m2,c m1=some (v,m2)->eX prog w g A sg env t (some (.next,fr,m2)) s ρ m):eX prog w g A sg env t (SM.act c fr m1) s ρ m:=by
 unfold SM.act;cases q:c m1 with
 |none=>exact True.intro
 |some x=>exact h x.1 x.2 q
theorem eX.test{c:av->MM Bool}{a b:SM}(h:∀v m2,c fr m1=some (v,m2)->eX prog w g A sg env t (bif v then a fr m2 else b fr m2) s ρ m):eX prog w g A sg env t (SM.test c a b fr m1) s ρ m:=by
 unfold SM.test;cases q:c fr m1 with
 |none=>exact True.intro
 |some x=>exact h x.1 x.2 q
theorem eX.opt{γ:Type}{o:Option γ}{k:γ->Option (eG×av×MH)}(h:∀x,o=some x->eX prog w g A sg env t (k x) s ρ m):eX prog w g A sg env t (o.bind k) s ρ m:=by
 cases o with
 |none=>exact True.intro
 |some x=>exact h x rfl
theorem eX.ite{c:Prop}[Decidable c](h:c->eX prog w g A sg env t r s ρ m):eX prog w g A sg env t (if c then r else none) s ρ m:=by
 by_cases q:c
 ·rw [if_pos q];exact h q
 ·rw [if_neg q];exact True.intro
theorem eX.step{K:Flow->Shared->Prop}(h:eX prog w g A sg env t r s ρ m)(e:r=some (f,fD,m'))
  (k:∀fl s' ρ',OK prog w g s' ρ' m'->dh (Own env) s ρ m s' ρ' m'->rI ρ' m'.n s'.heap f fl->dw sg env fD g s' ρ' m'.n->K fl s'):ay s cX A (model prog w) K t:=
 au (h.at e) (fun fl s' q=>q.elim fun ρ' q=>k fl s' ρ' q.1 q.2.1 q.2.2.1 q.2.2.2) fun ψ ψ q=>q
end
theorem slot_set(fr:av)(i j:Nat)(v:MV):slot (fr.set i (some v)) j=if j=i then(if i<fr.length then some v else none) else slot fr j:=by
 unfold slot
 by_cases h:j=i
 ·subst h;rw [if_pos rfl,List.getElem?_set_self']
  by_cases hl:j<fr.length
  ·rw [if_pos hl,iP hl];rfl
  ·rw [if_neg hl,List.getElem?_eq_none (Nat.le_of_not_lt hl)];rfl
 ·rw [if_neg h,List.getElem?_set_ne (Ne.symm h)]
theorem y8:∀ {l:List α},l.Nodup->∀ {i j:Nat} {x:α},l[i]? =some x->l[j]? =some x->i=j:=
 fun nd ψ ψ ψ h h'=>(List.getElem?_inj (List.getElem?_eq_some_iff.mp h).1 nd).mp (h.trans h'.symm)
section
variable {prog:Program}{w:World}{g:Heap}{A:Around}{s s':Shared}{ρ ρ':Nat->Addr}{m m':MH}{sg:Sg}{env:Env}{fr:av}
theorem l9.notDict{es:Array DictEntry}(h:o.data= .dict es n):¬l9 o:=by
 rintro(⟨vs,n,rfl⟩|⟨a,b,t,u,v,rfl⟩) <;> cases h
theorem l9.Mk{v:Option Value}(h:o.data= .cell v):¬l9 o:=by
 rintro(⟨vs,n,rfl⟩|⟨a,b,t,u,v,rfl⟩) <;> cases h
theorem ER{a b:Addr}{mp:Str->Option Value}{v:Option Value}(x:h.Ns a mp)(y:h.IsCell b v):a≠b:=by
 rintro rfl;obtain⟨o,es,ep,e,d,_⟩:=x;obtain⟨o',e',d'⟩:=y;rw [e] at e';cases e';rw [d] at d';cases d'
theorem nt(i:Nat){x:Str}{K:Unit->Shared->Prop}{E:Value->Shared->Prop}(S:OK prog w g s ρ m)(F:dw sg env fr g s ρ m.n)(hk:sg.ks[i]? =some x)(r:a_ ρ m.n s.heap y v)
  (k:∀s',OK prog w g s' ρ m->dh (Own env) s ρ m s' ρ m->(sg.nm.lookup x=some .local->dh (fun a=>a=env.locals) s ρ m s' ρ m)->dw sg env (fr.set i (some y)) g s' ρ m.n->K () s'):wpAny (model prog w) A (storeName env x v) K E s:=by
 have hm:=jB hk;obtain⟨mp,hn,hr⟩:=F.loc;have kM:∀z,env.kindOf z=sg.nm.lookup z:=fun z=>by unfold Env.kindOf;rw [F.ev.nm]
 have step:∀(a:Addr) (h':Heap) (t:Nat),Own env a->(∃o,h'.get? a=some o)->(∀o,s.heap.get? a=some o->¬l9 o)->Heap.SameBut a s.heap h'->
   OK prog w g {s with heap:=h',toks:=t} ρ m/\dh (fun b=>b=a) s ρ m {s with heap:=h',toks:=t} ρ m/\lr ρ m.n s.heap ρ m.n h':=fun a h' t ho hex hf hs=>by
  have H:Hid g s ρ m (fun b=>b=a):=⟨fun b hb=>hb▸(F.own a ho).1,fun b hb=>hb▸(F.own a ho).2.1,fun b o hb e=>hf o (hb▸e)⟩;have kk:∀b o,¬b=a->s.heap.get? b=some o->h'.get? b=some o:=fun b o hb e=>(hs.2 b hb).trans e;exact⟨S.kN (s':= {s with heap:=h',toks:=t}) H kk,.kN H kk (fun ψ q=>q) (fun b hb=>by rw [hb];exact hex) rfl rfl,⟨fun ψ ψ=>rfl,dT _,fun b o e f=>kk b o (fun q=>H.nM b o q e f) e⟩⟩
 have weak:∀ {a:Addr} {s':Shared},Own env a->dh (fun b=>b=a) s ρ m s' ρ m->dh (Own env) s ρ m s' ρ m:=fun ho V=>⟨V.ix,V.n,V.new,V.alive,V.nM,fun b o e h1 h2=>V.keep b o e h1 (fun q=>h2 (q▸ho)),V.os,V.gens⟩;rcases F.ev.vars x hm with hl|hl
 ·refine wpAny_storeName_local ((kM x).trans hl) hn (fun h' v9 hs=> ?_) (by rw [F.ev.kind];rfl);have Ud:∀o,s.heap.get? env.locals=some o->¬l9 o:=fun o e=>by
   obtain⟨o',es,ep,e',d,_⟩:=hn;rw [e] at e';cases e';exact l9.notDict d
  obtain⟨S',V',M'⟩:=step env.locals h' (s.toks+1) (.inl rfl) (v9.imp fun ψ h=>h.elim fun ψ h=>h.elim fun ψ h=>h.1) Ud hs;refine k _ S' (weak (.inl rfl) V') (fun ψ=>V') ⟨F.ev,⟨_,v9,fun j z hj hz=> ?_⟩,fun j z hj hz=> ?_,fun a ha=> ?_,F.ap⟩
  ·rw [slot_set]
   by_cases y9:j=i
   ·subst y9;rw [hk] at hj;cases hj;rw [if_pos rfl,if_pos rfl]
    split
    ·exact⟨v,rfl,r.mono M'⟩
    ·trivial
   ·have hzx:z≠x:=by rintro rfl;exact y9 (y8 F.ev.nd hj hk)
    rw [if_neg y9,if_neg hzx];exact(hr j z hj hz).mono M'
  ·have y9:j≠i:=by
    rintro rfl;rw [hk] at hj;cases hj;rw [hl] at hz;cases hz
   obtain⟨c,u,h1,h2,h3⟩:=F.y0 j z hj hz;rw [slot_set,if_neg y9];exact⟨c,u,h1,h2.sameBut hs (ER hn h2).symm,h3.mono M'⟩
  ·obtain⟨h1,h2,h3⟩:=F.own a ha;exact⟨h1,h2,h3.elim fun ψ e=>V'.alive _ _ e⟩
 ·obtain⟨c,u,h1,h2,h3⟩:=F.y0 i x hk hl;refine wpAny_storeName_cell F.ev.kind ((kM x).trans hl) h1 h2 fun h' Hw hs=> ?_;have Ud:∀o,s.heap.get? c=some o->¬l9 o:=fun o e=>by
   obtain⟨o',e',d⟩:=h2;rw [e] at e';cases e';exact l9.Mk d
  obtain⟨S',V',M'⟩:=step c h' s.toks (.inr ⟨x,h1⟩) (Hw.imp fun ψ h=>h.1) Ud hs;refine k _ S' (weak (.inr ⟨x,h1⟩) V') (fun q=>by rw [hl] at q;cases q) ⟨F.ev,⟨mp,hn.sameBut hs (ER hn h2),fun j z hj hz=> ?_⟩,fun j z hj hz=> ?_,fun a ha=> ?_,F.ap⟩
  ·have y9:j≠i:=by
    rintro rfl;rw [hk] at hj;cases hj;rw [hl] at hz;cases hz
   rw [slot_set,if_neg y9];exact(hr j z hj hz).mono M'
  ·rw [slot_set]
   by_cases y9:j=i
   ·subst y9;rw [hk] at hj;cases hj;rw [if_pos rfl];refine⟨c,some v,h1,Hw, ?_⟩
    split
    ·exact⟨v,rfl,r.mono M'⟩
    ·trivial
   ·obtain⟨c',u',q1,q2,q3⟩:=F.y0 j z hj hz;rw [if_neg y9];have iZ:c'≠c:=by
     rintro rfl;have:=F.ap _ _ _ q1 h1;subst this;exact y9 (y8 F.ev.nd hj hk)
    exact⟨c',u',q1,q2.sameBut hs iZ,q3.mono M'⟩
  ·obtain⟨h1,h2,h3⟩:=F.own a ha;exact⟨h1,h2,h3.elim fun ψ e=>V'.alive _ _ e⟩
end
section
variable {n:Nat}{sg:Sg}
theorem cn:fX n sg st SM.fail:=fun ψ ψ ψ ψ ψ ψ ψ ψ ψ ψ ψ ψ=>True.intro
theorem bu:qR n sg [] (SM.ret .next):=fun prog w A g env fr s ρ m hA S F=>aj (wpAny_execs_nil ⟨ρ,S,.refl,.next,F⟩)
theorem ai{c d:SM}(h:fX n sg st c)(hs:qR n sg ss d):qR n sg (st::ss) (SM.seq c d):=by
 intro prog w A g env fr s ρ m hA S F;unfold SM.seq;cases e:c fr m with
 |none=>exact True.intro
 |some x=>
  obtain⟨f,el,m1⟩:=x;cases f with
  |next=>
   refine .of fun f fD m' e2=>cL ((h _ _ A _ _ _ _ _ _ hA S F).step e fun fl s1 ρ1 S1 V1 r1 F1=> ?_);obtain rfl:=r1.Mj;exact(hs _ _ A _ _ _ _ _ _ hA S1 F1).step e2 fun fl s2 ρ2 S2 V2 r2 F2=>⟨ρ2,S2,V1.comp V2,r2,F2⟩
  |brk=>exact cL ((h _ _ A _ _ _ _ _ _ hA S F).step e fun fl s1 ρ1 S1 V1 r1 F1=>by cases r1;exact⟨ρ1,S1,V1,.brk,F1⟩)
  |cont=>exact cL ((h _ _ A _ _ _ _ _ _ hA S F).step e fun fl s1 ρ1 S1 V1 r1 F1=>by cases r1;exact⟨ρ1,S1,V1,.cont,F1⟩)
  |ret v=>exact cL ((h _ _ A _ _ _ _ _ _ hA S F).step e fun fl s1 ρ1 S1 V1 r1 F1=>by cases r1 with|ret r=>exact⟨ρ1,S1,V1,.ret r,F1⟩)
theorem ar{c:SM}(h:fX n sg st c):qR n sg [st] c:=by
 intro prog w A g env fr s ρ m hA S F;refine .of fun f fD m' e=>cL (au ((h _ _ A _ _ _ _ _ _ hA S F).at e) (fun fl s1 q=> ?_) fun ψ ψ f=>f);cases fl with
 |next=>exact aj (wpAny_execs_nil q)
 |_=>exact q
theorem cq(h:fX n sg st SM.fail):qR n sg (st::ss) SM.fail:=fun ψ ψ ψ ψ ψ ψ ψ ψ ψ ψ ψ ψ=>True.intro
noncomputable def lP(e:Expr):Bool:=Nat.blt e.ctorIdx 8||Nat.blt 10 e.ctorIdx
theorem ku{env:Env}{t:Option Expr}(h:lP e=true):swapsWith e t n env=pure false:=by
 cases e <;> first|rfl|exact Bool.noConfusion h
theorem bh(i:Nat){x:Str}(hk:sg.ks[i]? =some x)(h:cD n sg e c)(hc:lP e=true):fX n sg (.Assign [.Name x p] e p') (SM.use c (SM.put i)):=
 fun prog w A g env fr s ρ m hA S F=> .use fun v m1 e1=>lB ((h _ _ A _ _ _ _ _ _ hA S F).step e1 fun a s1 ρ1 S1 V1 r1=>aj<|nt i S1 (F.dP V1) hk r1 fun s2 S2 V2 ψ F2=>⟨ρ1,S2,V1.weak.comp V2,.next,F2⟩) (ku hc)
theorem aT(h:cD n sg e c):fX n sg (.Return (some e) p) (SM.use c fun v=>SM.ret (.ret v)):=
 fun prog w A g env fr s ρ m hA S F=> .use fun v m1 e1=>pU ((h _ _ A _ _ _ _ _ _ hA S F).step e1 fun a s1 ρ1 S1 V1 r1=>⟨ρ1,S1,V1.weak,.ret r1,F.dP V1⟩)
theorem bp(h:cD n sg e c)(hc:lP e=true):fX n sg (.Expr e p) (SM.use c fun ψ=>SM.ret .next):=
 fun prog w A g env fr s ρ m hA S F=> .use fun v m1 e1=>BF ((h _ _ A _ _ _ _ _ _ hA S F).step e1 fun a s1 ρ1 S1 V1 r1=>⟨ρ1,S1,V1.weak,.next,F.dP V1⟩) (by unfold interactive;rw [F.ev.kind];rfl) (ku hc)
theorem bM{t:Expr}{a b:List Stmt}{ct:av->MM Bool}{ca cb:SM}(ht:qQ n sg t ct)(ha:qR n sg a ca)(hb:qR n sg b cb):fX n sg (.If t a b p) (SM.test ct ca cb):=by
 intro prog w A g env fr s ρ m hA S F;refine .test fun v m1 e1=> ?_;cases v with
 |true=>exact .of fun f fD m' e=>CI ((ht _ _ A _ _ _ _ _ _ hA S F).step e1 fun c s1 ρ1 S1 V1 r1=>by cases r1;exact(ha _ _ A _ _ _ _ _ _ hA S1 (F.dP V1)).step e fun fl s2 ρ2 S2 V2 r2 F2=>⟨ρ2,S2,V1.weak.comp V2,r2,F2⟩)
 |false=>exact .of fun f fD m' e=>CI ((ht _ _ A _ _ _ _ _ _ hA S F).step e1 fun c s1 ρ1 S1 V1 r1=>by cases r1;exact(hb _ _ A _ _ _ _ _ _ hA S1 (F.dP V1)).step e fun fl s2 ρ2 S2 V2 r2 F2=>⟨ρ2,S2,V1.weak.comp V2,r2,F2⟩)
theorem bk{o:Expr}{d:av->MM MV}(h:cD n sg e c)(ho:cD n sg o d)(hc:∀C,C∈cs->fo C k)(hn:lP e=true):
  fX n sg (.Assign [.Attribute o k p] e p') (SM.use c fun v=>SM.use d fun x=>SM.act (pW cs k x v)):=
 fun prog w A g env fr s ρ m hA S F=> .use fun v m1 e1=> .use fun x m2 e2=> .act fun u m3 e3=>lp ((h _ _ A _ _ _ _ _ _ hA S F).step e1 fun a s1 ρ1 S1 V1 r1=>(ho _ _ A _ _ _ _ _ _ hA S1 (F.dP V1)).step e2 fun b s2 ρ2 S2 V2 r2=>
  (Mi hc S2 r2 (r1.mono V2.mono)).step e3 fun ψ s3 ρ3 S3 V3 ψ=>⟨ρ3,S3,((V1.comp V2).comp V3).weak,.next,((F.dP V1).dP V2).dP V3⟩) (ku hn)
end
end
section
def TT(loc:Bool)(env:Env):Addr->Prop:=fun a=>bif loc then a=env.locals else Own env a
def rJ(loc:Bool)(sg:Sg)(aU:Expr)(tg:MV->SM):Prop:=
 ∀prog w A g env fr s ρ m y v,A.handled=none->OK prog w g s ρ m->dw sg env fr g s ρ m.n->a_ ρ m.n s.heap y v->∀f fD m',tg y fr m=some (f,fD,m')->∀(K:Unit->Shared->Prop) (E:Value->Shared->Prop),
  (∀s' ρ',OK prog w g s' ρ' m'->dh (TT loc env) s ρ m s' ρ' m'->dw sg env fD g s' ρ' m'.n->f= .next->K () s')->wpAny (model prog w) A (assign aU env v) K E s
section
variable {sg:Sg}{loc:Bool}
theorem BL{prog:Program}{w:World}{g:Heap}{A:Around}{s:Shared}{ρ:Nat->Addr}{m:MH}{env:Env}{fr:av}{i:Nat}{x:Str}{y:MV}{v:Value}{K:Unit->Shared->Prop}{E:Value->Shared->Prop}
  (hk:sg.ks[i]? =some x)(hl:loc=true->sg.nm.lookup x=some .local)(S:OK prog w g s ρ m)(F:dw sg env fr g s ρ m.n)(r:a_ ρ m.n s.heap y v)
  (k:∀s',OK prog w g s' ρ m->dh (TT loc env) s ρ m s' ρ m->dw sg env (fr.set i (some y)) g s' ρ m.n->K () s'):wpAny (model prog w) A (storeName env x v) K E s:=
 nt i S F hk r fun s' S' V' L' F'=>k s' S' (by
  cases loc with
  |true=>exact L' (hl rfl)
  |false=>exact V') F'
theorem bB(i:Nat){x:Str}{p:Pos}(hk:sg.ks[i]? =some x)(hl:loc=true->sg.nm.lookup x=some .local):rJ loc sg (.Name x p) (SM.put i):=by
 intro prog w A g env fr s ρ m y v hA S F r f fD m' e K E k;cases e;exact wpAny_assign_Name (BL hk hl S F r fun s' S' V' F'=>k _ _ S' V' F' rfl)
inductive l_ (loc:Bool) (sg:Sg):List Expr->List Nat->Prop where
 |nil:l_ loc sg [] []
 |cons {i:Nat} {x:Str} {p:Pos} {es:List Expr} {is:List Nat} (hk:sg.ks[i]? =some x) (hl:loc=true->sg.nm.lookup x=some .local) (h:l_ loc sg es is):l_ loc sg (.Name x p::es) (i::is)
noncomputable def iR(fr:av):List Nat->List MV->av
 |i::is,x::xs=>iR (fr.set i (some x)) is xs
 |_,_=>fr
noncomputable def SM.unpack(is:List Nat)(x:MV):SM:=fun fr m=>x.BJ.bind fun xs=>if xs.length=is.length then some (.next,iR fr is xs,m) else none
theorem ky{α:Type}{c:Prop}[Decidable c]{a b:α}(h:(if c then some a else none)=some b):c/\a=b:=by
 by_cases q:c
 ·rw [if_pos q] at h;exact⟨q,dZ h⟩
 ·rw [if_neg q] at h;exact cj h
theorem l_.each{es:List Expr}{is:List Nat}(h:l_ loc sg es is)(env:Env):(assignEach es env).length=is.length/\(assignEach es env).findIdx? (·.1)=none/\(assignEach es env).map (·.2)=es.map fun e=>assign e env:=by
 induction h with
 |nil=>exact⟨rfl,rfl,rfl⟩
 | @cons i x p es is hk hl h ih=>
  have e:assignEach (.Name x p::es) env=(false,assign (.Name x p) env)::assignEach es env:=rfl;rw [e];exact⟨by simp [ih.1],by simp [List.findIdx?_cons,ih.2.1],by simp [ih.2.2]⟩
theorem ES{prog:Program}{w:World}{g:Heap}{A:Around}{env:Env}{ρ:Nat->Addr}{m:MH}{es:List Expr}{is:List Nat}(h:l_ loc sg es is):∀ {s:Shared} {fr:av} {ys:List MV} {vs:List Value} {K:Unit->Shared->Prop} {E:Value->Shared->Prop},
  OK prog w g s ρ m->dw sg env fr g s ρ m.n->bI ρ m.n s.heap ys vs->ys.length=is.length->(∀s',OK prog w g s' ρ m->dh (TT loc env) s ρ m s' ρ m->dw sg env (iR fr is ys) g s' ρ m.n->K () s')->
  wpAny (model prog w) A (assignInOrder (es.map fun e=>assign e env) vs) K E s:=by
 induction h with
 |nil=>
  intro s fr ys vs K E S F r hl k;exact assignInOrder_nil (k s S .refl F)
 | @cons i x p es is hk hl h ih=>
  intro s fr ys vs K E S F r hlen k;cases r with
  |nil=>simp at hlen
  | @cons y v ys vs r rs=>
   refine assignInOrder_cons (wpAny_assign_Name (BL hk hl S F r fun s1 S1 V1 F1=> ?_));exact ih S1 F1 (rs.mono V1.mono) (by simpa using hlen) fun s2 S2 V2 F2=>k s2 S2 (V1.comp V2) F2
theorem fq{es:List Expr}{is:List Nat}{kk:Nat}{p:Pos}(h:l_ loc sg es is):rJ loc sg (.Tuple es kk p) (SM.unpack is):=by
 intro prog w A g env fr s ρ m y v hA S F r f fD m' e K E k;obtain⟨xs,hx,e⟩:=bj e;obtain⟨hl,e⟩:=ky e;obtain⟨vs,a,ep,ha,rs,rfl⟩:=r.tupI hx;cases e;obtain⟨h1,h2,h3⟩:=h.each env;refine wpAny_assign_Tuple hA ⟨_,ha,rfl,_,rfl⟩ (by rw [h1,fW, <- rs.length,hl]) h2 fun h' he=> ?_;have hs:Sub s.heap h':=fun b o e=>he b o (fun q=>by rw [q,cA] at e;cases e) e;have V:dh (TT loc env) s ρ m {s with heap:=h'} ρ m:= .grow hs rfl rfl;rw [h3,List.toList_toArray];have V0:dh fk s ρ m {s with heap:=h'} ρ m:= .grow hs rfl rfl;exact ES h (S.grow hs) (F.dP V0) (rs.mono V.mono) hl fun s2 S2 V2 F2=>k s2 ρ S2 (V.comp V2) F2 rfl
end
structure Src where
 len:MH->Option Nat
 item:Nat->MH->Option MV
noncomputable def srcOf(x:MV):Src where
 len:=fun m=>MV.casesOn (motive_1:=fun ψ=>Option Nat) x none (fun ψ=>none) (fun ψ=>none) (fun s=>if s.cps.all (· <128) then some s.cps.size else none) (fun b=>some b.length) (fun ψ=>none) (fun a b=>if a=0/\0<=b/\b<2 ^ 60 then some b.toNat else none) (fun i=>(m.ob i).gQ.map List.length) (fun ψ=>none)
 item:=fun k m=>MV.casesOn (motive_1:=fun ψ=>Option MV) x none (fun ψ=>none) (fun ψ=>none) (fun s=>s.cps[k]?.map fun c=>MV.str ⟨#[c]⟩) (fun b=>b[k]?.map fun c=>MV.int (c.toNat:Int)) (fun ψ=>none) (fun a b=>some (MV.int (k:Int))) (fun i=>(m.ob i).gQ.bind fun xs=>xs[k]?) (fun ψ=>none)
section
variable {m:MH}{i k n:Nat}{xs:List MV}
theorem y_(h:m.ob i= .list xs):(srcOf (.obj i)).len m=some xs.length:=by show(m.ob i).gQ.map _=_;rw [h];rfl
theorem sR(h:m.ob i= .list xs):(srcOf (.obj i)).item k m=xs[k]? :=by show(m.ob i).gQ.bind _=_;rw [h];rfl
end
structure Kept (X:Addr->Prop) (s s':Shared):Prop where
 h:∀a o,¬X a->s.heap.get? a=some o->s'.heap.get? a=some o
 os:s'.os=s.os
 gens:s'.gens=s.gens
structure kP (prog:Program) (w:World) (g:Heap) (A:Around) (aU:Expr) (src:Src) (n:Nat) (it:Value) (X:Addr->Prop) (St:Nat->Heap->Prop) (Md:Nat->Heap->Value->Prop) (ρ0:Nat->Addr) (n0:Nat):Prop where
 u6:∀k h h',St k h->(∀a o,X a->h.get? a=some o->h'.get? a=some o)->St k h'
 ex:∀k h,St k h->∀a,X a->∃o,h.get? a=some o/\¬l9 o
 PF:∀k h u,Md k h u->∀a,X a->∃o,h.get? a=some o/\¬l9 o
 next:∀s ρ m k v (K:Option Value->Shared->Prop),k<n->OK prog w g s ρ m->(∀i,i<n0->ρ i=ρ0 i)->n0<=m.n->src.len m=some n->src.item k m=some v->St k s.heap->Hid g s ρ m X->
  (∀u s',Kept X s s'->Md (k+1) s'.heap u->a_ ρ m.n s'.heap v u->K (some u) s')->ay s cX A (model prog w) K (pyNext it)
 done:∀s ρ m (K:Option Value->Shared->Prop),OK prog w g s ρ m->(∀i,i<n0->ρ i=ρ0 i)->n0<=m.n->src.len m=some n->St n s.heap->Hid g s ρ m X->
  (∀s',Kept X s s'->K none s')->ay s cX A (model prog w) K (pyNext it)
 self:∀k s (K:Value->Shared->Prop),St k s.heap->K it s->ay s cX A (model prog w) K (pyIter it)
 quiet:∀k s u (K:Unit->Shared->Prop),Md k s.heap u->(∀s',Kept X s s'->St k s'.heap->K () s')->ay s cX A (model prog w) K (letOwnedTupleGo aU it u)
def Given(prog:Program)(w:World)(g:Heap)(A:Around)(aU:Expr)(src:Src)(n:Nat)(s:Shared)(ρ:Nat->Addr)(m:MH)(K:Value->Shared->Prop):Prop:=
 ∀it s1 X St Md,OK prog w g s1 ρ m->dh fk s ρ m s1 ρ m->(∀a,X a->s.heap.get? a=none/\∀i,i<m.n->ρ i≠a)->St 0 s1.heap->kP prog w g A aU src n it X St Md ρ m.n->K it s1
def CS(prog:Program)(w:World)(g:Heap)(n:Nat)(sg:Sg)(aU iter:Expr)(ci:av->MM Src):Prop:=
 ∀A env fr s ρ m,dj n A->OK prog w g s ρ m->dw sg env fr g s ρ m.n->∀src m',ci fr m=some (src,m')->∀k,src.len m'=some k->∀(K:Value->Shared->Prop),
  (∀it s1 ρ1 X St Md,OK prog w g s1 ρ1 m'->dh fk s ρ m s1 ρ1 m'->(∀a,X a->s.heap.get? a=none/\∀i,i<m'.n->ρ1 i≠a)->St 0 s1.heap->kP prog w g A aU src k it X St Md ρ1 m'.n->K it s1)->
  ay s cX A (model prog w) (fun x s1=>ay s1 cX A (model prog w) K (pyIter x)) (eval iter env)
def ET(n:Nat)(sg:Sg)(aU iter:Expr)(ci:av->MM Src):Prop:=∀prog w g,CS prog w g n sg aU iter ci
section
variable {prog:Program}{w:World}{A:Around}{s:Shared}{E:Value->Shared->Prop}
theorem BM{I:Addr}{o:Obj}{n:String}{aU:Expr}{v:Value}{Q:Unit->Shared->Prop}(ho:s.heap.get? I=some o)(hc:o.cls= .type n)(hn: ["enumerate","zip","dict_itemiterator","dict_reverseitemiterator","odict_iterator","itertools.zip_longest","itertools.pairwise"].contains n=false)(h:Q () s):
  wpAny (model prog w) A (letOwnedTupleGo aU (.ref I) v) Q E s:=by
 have key:wpAny (model prog w) A (do
   let(.ref r,.ref a):=(Value.ref I,v)|return
   let o <- load r
   match o.cls,o.data with
   | .type n,.fields vs=>
    if ["enumerate","zip","dict_itemiterator","dict_reverseitemiterator","odict_iterator","itertools.zip_longest","itertools.pairwise"].contains n&&vs[0]? ==some (rawInt a) then
     rule "for.unpacks-the-owned-tuple"
     updateField r 0 .none
   |_,_=>pure ():Sem Unit) Q E s:=by
  cases v with
  |ref a=>
   refine aN (wpAny_load ho ?_);obtain⟨oc,od,oda,v_⟩:=o;dsimp only at hc;subst hc;cases oda <;> first|exact wpAny_pure h|(dsimp only;rw [hn,Bool.false_and,if_neg (of_decide_eq_true rfl)];exact wpAny_pure h)
  |_=>exact cP h
 cases aU <;> first|exact key|exact cP h
theorem iq{o:Obj}{n:String}(hc:o.cls= .type n)(h1:(n=="tuple")=false)(h2:(n=="range")=false):¬l9 o:=fun f=>by
 rcases f.cls with e|e <;> rw [hc] at e <;> cases e
 ·cases h1
 ·cases h2
theorem kP.sS{g:Heap}{aU:Expr}{src:Src}{n n0:Nat}{I:Addr}{T:String}{d:Nat->Obj->Prop}{ρ0:Nat->Addr}(hT:∀k o,d k o->o.cls= .type T)(h1:(T=="tuple")=false)(h2:(T=="range")=false)
  (h3: ["enumerate","zip","dict_itemiterator","dict_reverseitemiterator","odict_iterator","itertools.zip_longest","itertools.pairwise"].contains T=false)
  (hW:∀(s:Shared) ρ m,OK prog w g s ρ m->(∀i,i<n0->ρ i=ρ0 i)->n0<=m.n->src.len m=some n->Hid g s ρ m (fun a=>a=I)->
   ∃(fp:List Addr) (P:Nat->Value->Prop) (S:Nat->Heap->Prop),Walks prog w A I fp [I] n P S/\(∀k,(∃o:Obj,s.heap.get? I=some o/\d k o)->S k s.heap)/\
    (∀k h,S k h->∃o:Obj,h.get? I=some o/\d k o)/\(∀k v u (h':Heap),P k u->src.item k m=some v->(∀a o,¬a=I->s.heap.get? a=some o->h'.get? a=some o)->a_ ρ m.n h' v u))
  (uc:∀k (s:Shared) (K:Value->Shared->Prop),(∃o:Obj,s.heap.get? I=some o/\d k o)->K (.ref I) s->ay s cX A (model prog w) K (pyIter (.ref I))):
  kP prog w g A aU src n (.ref I) (fun a=>a=I) (fun k h=>∃o:Obj,h.get? I=some o/\d k o) (fun k h ψ=>∃o:Obj,h.get? I=some o/\d k o) ρ0 n0 where
 u6:=fun k h h' ⟨o,e,r⟩ hk=>⟨o,hk _ _ rfl e,r⟩
 ex:=fun k h ⟨o,e,hc⟩ a ha=>⟨o,ha▸e,iq (hT _ _ hc) h1 h2⟩
 next:=fun s ρ m k v K hk S h4 h5 h6 h7 st H q=>by
  obtain⟨fp,P,St,W,a1,a2,a3⟩:=hW s ρ m S h4 h5 h6 H;refine aj (W.item k s _ _ hk (a1 k st) fun u h' t hP hS CC=> ?_);have Se:∀a o,¬a=I->s.heap.get? a=some o->h'.get? a=some o:=fun a o ha e=>CC a o (by simpa using ha) e;exact q u _ ⟨Se,rfl,rfl⟩ (a2 _ _ hS) (a3 k v u h' hP h7 Se)
 done:=fun s ρ m K S h4 h5 h6 st H q=>by
  obtain⟨fp,P,St,W,a1,a2,a3⟩:=hW s ρ m S h4 h5 h6 H;refine aj (W.done s _ _ (a1 n st) fun h' t CC=> ?_);exact q _ ⟨fun a o ha e=>CC a o (by simpa using ha) e,rfl,rfl⟩
 self:=uc
 PF:=fun k h u ⟨o,e,hc⟩ a ha=>⟨o,ha▸e,iq (hT _ _ hc) h1 h2⟩
 quiet:=fun k s u K ⟨o,e,hd⟩ q=>aj (BM e (hT _ _ hd) h3 (q s ⟨fun ψ ψ ψ e=>e,rfl,rfl⟩ ⟨o,e,hd⟩))
variable {g:Heap}{ρ:Nat->Addr}{m:MH}
theorem src_list{aU:Expr}{i:Nat}{xs:List MV}{n:Nat}(hh:A.handled=none)(hi:i<m.n)(hn:(srcOf (.obj i)).len m=some n)(S:OK prog w g s ρ m){K:Value->Shared->Prop}
  (k:Given prog w g A aU (srcOf (.obj i)) n s ρ m K):
  ay s cX A (model prog w) K (pyIter (.ref (ρ i))):=by
 have Mn:∀ {s:Shared} {ρ':Nat->Addr} {m':MH} {g:Heap},OK prog w g s ρ' m'->i<m'.n->(srcOf (.obj i)).len m'=some n->∃xs vs e,m'.ob i= .list xs/\xs.length=n/\s.heap.get? (ρ' i)=some (fO vs e)/\bI ρ' m'.n s.heap xs vs:=by
  intro s ρ' m' g S hi hn;obtain⟨o,ho,r⟩:=S.ob i hi;obtain⟨xs,e,hl⟩:=Option.map_eq_some_iff.mp hn;have e:=MO.jN e;rw [e] at r;obtain⟨vs,ep,rfl,rs⟩:=r;exact⟨xs,vs,ep,e,hl,ho,rs⟩
 obtain⟨xs,vs,ep,h1,h2,h3,h4⟩:=Mn S hi hn;have hs:Sub s.heap (s.heap.push {cls:= .type "list_iterator",data:= .fields #[.ref (ρ i),.int 0 0]}):=fun a o e=>gS _ e;refine aj (wpAny_pyIter_list (items:=vs.toArray) ⟨_,h3,rfl,_,rfl⟩ ?_);refine k _ _ (fun a=>a=s.heap.objs.size) _ _ (S.grow hs) (.grow hs rfl rfl) (fun a ha=>ha▸⟨cA _,S.lC (cA _)⟩) ⟨_,iQ _ rfl,rfl,rfl⟩
  (kP.sS (T:="list_iterator") (d:=fun k o=>o.cls= .type "list_iterator"/\o.data= .fields #[.ref (ρ i),.int k 0]) (fun ψ ψ h=>h.1) rfl rfl rfl (fun s' ρ' m' S' h4 h5 h6 H=> ?_) fun k s K ⟨o,e,c,d⟩ hK=> ?_)
 ·obtain⟨xs',Ug,CT,q1,q2,q3,q4⟩:=Mn S' (eD hi h5) h6;have iZ:ρ i≠s.heap.objs.size:=by rw [<- h4 i hi];exact H.ρ _ rfl i (eD hi h5)
  have W:=Walks.list (prog:=prog) (w:=w) hh s.heap.objs.size (ρ i) iZ Ug.toArray;have hsz:Ug.toArray.size=n:=by simp [<- q4.length,q2]
  rw [hsz] at W;refine⟨_,_,_,W,fun k ⟨o,e,c,d⟩=>⟨⟨o,e,c,d⟩,⟨_,by rw [<- h4 i hi];exact q3,rfl,_,rfl⟩⟩,fun k h st=>let⟨o,e,c,d⟩:=st.1;⟨o,e,c,d⟩,fun k v u h' hP hv hk=> ?_⟩;rw [sR q1] at hv;obtain⟨u',e,r⟩:=q4.get hv;have Hy:Ug[k]? =some u:=by simpa using hP
  rw [Hy] at e;cases e;exact r.mono ⟨fun ψ ψ=>rfl,dT _,fun a o e f=>hk a o (fun q=>H.nM a o q e f) e⟩
 ·exact aj (wpAny_pyIter_listiter ⟨o,e,c,d⟩ hK)
theorem ud{aU:Expr}{o:Obj}{n n0:Nat}{src:Src}{St:Nat->Heap->Prop}{K:Value->Shared->Prop}(S:OK prog w g s ρ m)
  (k:Given prog w g A aU src n s ρ m K)
  (rk:St 0 (s.heap.push o)){Md:Nat->Heap->Value->Prop}(I:kP prog w g A aU src n (.ref s.heap.objs.size) (fun a=>a=s.heap.objs.size) St Md ρ m.n):K (.ref s.heap.objs.size) {s with heap:=s.heap.push o}:=by
 have hs:Sub s.heap (s.heap.push o):=fun a o' e=>gS _ e;exact k _ _ (fun a=>a=s.heap.objs.size) St Md (S.grow hs) (.grow hs rfl rfl) (fun a ha=>ha▸⟨cA _,S.lC (cA _)⟩) rk I
theorem Hz{aU:Expr}{b:List UInt8}{t:Tok}{n:Nat}(hh:A.handled=none)(hn:(srcOf (.bytes b)).len m=some n)(S:OK prog w g s ρ m){K:Value->Shared->Prop}
  (k:Given prog w g A aU (srcOf (.bytes b)) n s ρ m K):
  ay s cX A (model prog w) K (pyIter (.bytes b.toArray t)):=by
 have v9:b.toArray.size=n:=List.size_toArray.trans (dZ hn);have W:=KBw.walks (prog:=prog) (w:=w) hh s.heap.objs.size b.toArray t;rw [v9] at W;refine aj (KBw.pyIter_bytes ?_);refine ud (n0:=0) S k ⟨_,iQ _ rfl,rfl,rfl⟩
  (kP.sS (T:="bytes_iterator") (d:=fun k o=>o.cls= .type "bytes_iterator"/\o.data= .fields #[.bytes b.toArray t,.int k 0]) (fun ψ ψ h=>h.1) rfl rfl rfl (fun s' ρ' m' S' h4 h5 h6 H=> ?_) fun k s K ⟨o,e,c,d⟩ hK=>aj (W.self k s _ _ ⟨o,e,c,d⟩ hK))
 refine⟨_,_,_,W,fun k ⟨o,e,c,d⟩=>⟨o,e,c,d⟩,fun k h ⟨o,e,c,d⟩=>⟨o,e,c,d⟩,fun k v u h' hP hv hk=> ?_⟩;obtain⟨c,tk,e,rfl⟩:=hP;have e':b[k]? =some c:=by simpa using e
 obtain rfl:=dZ ((congrArg (Option.map fun c:UInt8=>MV.int (c.toNat:Int)) e').symm.trans hv);exact .int _ _
theorem Mo{aU:Expr}{x:Str}{t:Tok}{n:Nat}(hh:A.handled=none)(hn:(srcOf (.str x)).len m=some n)(S:OK prog w g s ρ m){K:Value->Shared->Prop}
  (k:Given prog w g A aU (srcOf (.str x)) n s ρ m K):
  ay s cX A (model prog w) K (pyIter (.str x t)):=by
 obtain⟨hx,v9⟩:=ky hn;have W:=Walks.strAscii (prog:=prog) (w:=w) hh s.heap.objs.size x t;rw [v9] at W;refine aj (wpAny_pyIter_ascii hx ?_);refine ud (n0:=0) S k ⟨_,iQ _ rfl,rfl,rfl⟩
  (kP.sS (T:="str_ascii_iterator") (d:=fun k o=>o.cls= .type "str_ascii_iterator"/\o.data= .fields #[.str x t,.int k 0]) (fun ψ ψ h=>h.1) rfl rfl rfl (fun s' ρ' m' S' h4 h5 h6 H=> ?_) fun k s K ⟨o,e,c,d⟩ hK=>aj (W.self k s _ _ ⟨o,e,c,d⟩ hK))
 refine⟨_,_,_,W,fun k ⟨o,e,c,d⟩=>⟨o,e,c,d⟩,fun k h ⟨o,e,c,d⟩=>⟨o,e,c,d⟩,fun k v u h' hP hv hk=> ?_⟩;obtain⟨c,tk,e,rfl⟩:=hP;obtain rfl:=dZ ((congrArg (Option.map fun c=>MV.str ⟨#[c]⟩) e).symm.trans hv);exact .str _ _
theorem Mp{aU:Expr}{x y:Int}{a:Addr}{t u v:Tok}{n:Nat}(hh:A.handled=none)(hn:(srcOf (.oz x y)).len m=some n)(ha:s.heap.get? a=some (Jd x y t u v))(S:OK prog w g s ρ m){K:Value->Shared->Prop}
  (k:Given prog w g A aU (srcOf (.oz x y)) n s ρ m K):
  ay s cX A (model prog w) K (pyIter (.ref a)):=by
 obtain⟨⟨rfl,h0,h1⟩,this⟩:=ky hn;have v9:y=(n:Int):=by exact YS h0 this
 subst v9;have hsz:Builtin.Range.rangeSize 0 (n:Int) 1=(n:Int):=by rw [rangeSize_one];split <;> omega
 have W:=Walks.range (prog:=prog) (w:=w) hh s.heap.objs.size 0 1 n;refine aj (wpAny_pyIter_range ha (small_one (by decide) (by decide) (by exact YT h0) (by exact YU h1)) ?_);rw [hsz];refine ud (n0:=0) S k ⟨_,iQ _ rfl,rfl⟩
  (kP.sS (T:="range_iterator") (d:=fun k o=>o= {cls:= .type "range_iterator",dict:=none,data:= .fields #[rawInt (0+(k:Nat)*1),rawInt ((n:Int)-(k:Nat)),rawInt 1],slots:= #[]}) (fun ψ ψ h=>by rw [h]) rfl rfl rfl (fun s' ρ' m' S' h4 h5 h6 H=> ?_) fun k s K ⟨o,e,d⟩ hK=>aj (W.self k s _ _ (by rw [d] at e;exact e) hK))
 refine⟨_,_,_,W,fun k ⟨o,e,d⟩=>by rw [d] at e;exact e,fun k h e=>⟨_,e,rfl⟩,fun k v u h' hP hv hk=> ?_⟩;obtain⟨tk,rfl⟩:=hP;obtain rfl:=dZ hv;rw [show(0:Int)+(k:Int)*1=k by exact YV];exact .int _ _
end
section
variable {n:Nat}{sg:Sg}
noncomputable def rS(x:MV):MM Src:=MM.ret (srcOf x)
theorem aY{aU e:Expr}{c:av->MM MV}(h:cD n sg e c):ET n sg aU e (oC c rS):=by
 intro prog w g A env fr s ρ m hA S F src m' e k hk K q;obtain⟨x,m1,e1,e⟩:=MM.bind_some e;obtain⟨rfl,rfl⟩:=MM.lD e;refine(h _ _ A _ _ _ _ _ _ hA S F).step e1 fun a s1 ρ1 S1 V1 r1=> ?_;have fin:Given prog w g A aU (srcOf x) k s1 ρ1 m' K:=fun it s2 X St Md S2 V2 hX rk I=>q it s2 ρ1 X St Md S2 (V1.comp V2) (fun a ha=>⟨V1.old (hX a ha).1,(hX a ha).2⟩) rk I;clear e1
 revert hk fin
 exact r1.casesOn cj (fun ψ=>cj) (fun ψ ψ=>cj) (fun ψ ψ hk=>Mo hA.2.2 hk S1) (fun ψ ψ hk=>Hz hA.2.2 hk S1) (fun ψ ψ=>cj) (fun hr hk=>Mp hA.2.2 hk hr S1) (fun hi hk=>src_list (xs:= []) hA.2.2 hi hk S1) fun ψ=>cj
end
end
section
variable {n:Nat}{α:Type}{ci:av->MM Src}{tg:MV->SM}{body:SM}{fr:av}{m:MH}{r:eG×av×MH}{src:Src}
section
variable {prog:Program}{w:World}{g:Heap}{A:Around}{s s' s0:Shared}{ρ ρ' ρ0:Nat->Addr}{m m' m0:MH}{sg:Sg}{env:Env}{fr:av}{T X:Addr->Prop}
theorem dh.hidden(V:dh T s ρ m s' ρ' m')(hx:∀a,X a->∃o,s.heap.get? a=some o)(hρ:∀a,X a->∀i,i<m.n->ρ i≠a)(hT:∀a,X a->¬T a):
  (∀a,X a->∀i,i<m'.n->ρ' i≠a)/\∀a o,X a->s.heap.get? a=some o->s'.heap.get? a=some o:=by
 refine⟨fun a ha i hi q=> ?_,fun a o ha e=>V.keep a o e (hρ a ha) (hT a ha)⟩
 by_cases h:i<m.n
 ·exact hρ a ha i h ((V.ix i h).symm.trans q)
 ·have:=V.new i (Nat.le_of_not_lt h) hi;obtain⟨o,e⟩:=hx a ha;rw [q,e] at this;cases this
theorem dh.Mq(V:dh T s0 ρ0 m0 s ρ m)(hX:∀a,X a->s0.heap.get? a=none)(k:∀a o,¬X a->s.heap.get? a=some o->s'.heap.get? a=some o)(ho:s'.os=s.os)(hg:s'.gens=s.gens):dh T s0 ρ0 m0 s' ρ m where
 ix:=V.ix
 n:=V.n
 new:=V.new
 alive:=fun a o e=>by
  obtain⟨o',q⟩:=V.alive a o e;exact⟨o',k a o' (fun x=>by rw [hX a x] at e;cases e) q⟩
 nM:=fun a o e f=>k a o (fun x=>by rw [hX a x] at e;cases e) (V.nM a o e f)
 keep:=fun a o e h1 h2=>k a o (fun x=>by rw [hX a x] at e;cases e) (V.keep a o e h1 h2)
 os:=ho.trans V.os
 gens:=hg.trans V.gens
theorem dw.qp(F:dw sg env fr g s ρ n)(h:∀a,Own env a->¬X a)(k:∀a o,¬X a->s.heap.get? a=some o->s'.heap.get? a=some o)(M:lr ρ n s.heap ρ n s'.heap):dw sg env fr g s' ρ n:=by
 refine⟨F.ev, ?_, ?_, ?_,F.ap⟩
 ·obtain⟨mp,h1,h2⟩:=F.loc;exact⟨mp,Hs h1 fun o e=>k _ o (h _ (.inl rfl)) e,fun i x a b=>(h2 i x a b).mono M⟩
 ·intro i x a b;obtain⟨c,v,h1,h2,h3⟩:=F.y0 i x a b;exact⟨c,v,h1,uY h2 fun o e=>k _ o (h _ (.inr ⟨_,h1⟩)) e,h3.mono M⟩
 ·intro a ha;obtain⟨h1,h2,o,h3⟩:=F.own a ha;exact⟨h1,h2,o,k a o (h a ha) h3⟩
theorem Hid.mono(H:Hid g s ρ m X)(k:∀a o,¬X a->s.heap.get? a=some o->s'.heap.get? a=some o):lr ρ m.n s.heap ρ m.n s'.heap:=
 ⟨fun ψ ψ=>rfl,dT _,fun a o e f=>k a o (fun x=>H.nM a o x e f) e⟩
end
noncomputable def CU{α:Type}(k:av->MH->Option α):Option (eG×av×MH)->Option α
 |some (.next,fr,m)=>k fr m
 |_=>none
theorem w_{k:av->MH->Option α}{r:α}:∀ {o:Option (eG×av×MH)},CU k o=some r->∃fr m,o=some (.next,fr,m)/\k fr m=some r
 |none,h=>cj h
 |some (f,fr,m),h=>by
  cases f with
  |next=>exact⟨fr,m,rfl,h⟩
  |_=>exact cj h
theorem zb{c:Prop}[Decidable c]{a:Option α}{b:α}(h:(if c then a else none)=some b):c/\a=some b:=by
 by_cases q:c
 ·rw [if_pos q] at h;exact⟨q,h⟩
 ·rw [if_neg q] at h;exact cj h
noncomputable def HA(rest:av->MH->Option (eG×av×MH)):Option (eG×av×MH)->Option (eG×av×MH)
 |some (.next,fr,m)=>rest fr m
 |some (.cont,fr,m)=>rest fr m
 |some (.brk,fr,m)=>some (.next,fr,m)
 |r=>r
namespace SM
noncomputable def loop(src:Src)(n:Nat)(tg:MV->SM)(body:SM):Nat->SM
 |0=>fun fr m=>if src.len m=some n then some (.next,fr,m) else none
 |r+1=>fun fr m=>if src.len m=some n then(src.item (n-(r+1)) m).bind fun v=>CU (fun el m1=>HA (loop src n tg body r) (body el m1)) (tg v fr m) else none
noncomputable def forIn(ci:av->MM Src)(tg:MV->SM)(body:SM):SM:=fun fr m=>(ci fr m).bind fun x=>(x.1.len x.2).bind fun n=>loop x.1 n tg body n fr x.2
end SM
theorem SM.forIn_some(e:SM.forIn ci tg body fr m=some r):∃src m1 N,ci fr m=some (src,m1)/\src.len m1=some N/\SM.loop src N tg body N fr m1=some r:=by
 obtain⟨x,e1,e⟩:=bj e;obtain⟨N,e2,e⟩:=bj e;exact⟨x.1,x.2,N,e1,e2,e⟩
structure Turn (src:Src) (n:Nat) (tg:MV->SM) (k:Nat) (fr:av) (m:MH) (v:MV) (el:av) (m1:MH):Prop where
 len:src.len m=some n
 item:src.item k m=some v
 tg:tg v fr m=some (.next,el,m1)
theorem SM.HC(e:SM.loop src n tg body 0 fr m=some r):src.len m=some n/\(.next,fr,m)=r:=ky e
theorem SM.HD{k j:Nat}(hj:n-(j+1)=k)(e:SM.loop src n tg body (j+1) fr m=some r):∃v el m1,Turn src n tg k fr m v el m1/\HA (SM.loop src n tg body j) (body el m1)=some r:=by
 obtain⟨hl,e⟩:=zb e;rw [hj] at e;obtain⟨v,e1,e⟩:=bj e;obtain⟨el,m1,e2,e⟩:=w_ e;exact⟨v,el,m1,⟨hl,e1,e2⟩,e⟩
structure CB (prog:Program) (w:World) (g:Heap) (T:Addr->Prop) (s0:Shared) (ρ0:Nat->Addr) (m0:MH) (HE:Sg) (cenv:Env) (Y:Addr->Prop) (ρ1:Nat->Addr) (n1:Nat) (s:Shared) (ρ:Nat->Addr) (m:MH) (fr:av):Prop where
 ok:OK prog w g s ρ m
 dP:dh T s0 ρ0 m0 s ρ m
 ix:∀i,i<n1->ρ i=ρ1 i
 n:n1<=m.n
 qp:∀a,Y a->∀i,i<m.n->ρ i≠a
 zc:dw HE cenv fr g s ρ m.n
structure Jj (g:Heap) (s0:Shared) (cenv:Env) (Y:Addr->Prop):Prop where
 s0:∀a,Y a->s0.heap.get? a=none
 own:∀a,Own cenv a->¬Y a
 g:∀a,Y a->g.get? a=none
section
variable {prog:Program}{w:World}{g:Heap}{s0 s s':Shared}{ρ0 ρ1 ρ ρ':Nat->Addr}{m0 m m':MH}{HE:Sg}{cenv:Env}{Y Z T T0:Addr->Prop}{n1:Nat}{fr fD:av}
theorem CB.kN(B:CB prog w g T s0 ρ0 m0 HE cenv Y ρ1 n1 s ρ m fr)(V:Jj g s0 cenv Y)(hZ:∀a,Z a->Y a)(hf:∀a o,Z a->s.heap.get? a=some o->¬l9 o)(k:Kept Z s s'):CB prog w g T s0 ρ0 m0 HE cenv Y ρ1 n1 s' ρ m fr/\lr ρ m.n s.heap ρ m.n s'.heap:=by
 have H:Hid g s ρ m Z:=⟨fun a ha=>V.g a (hZ a ha),fun a ha=>B.qp a (hZ a ha),hf⟩;have M:=H.mono k.h;exact⟨⟨B.ok.kN H k.h,B.dP.Mq (fun a ha=>V.s0 a (hZ a ha)) k.h k.os k.gens,B.ix,B.n,B.qp,B.zc.qp (fun a h1 h2=>V.own a h1 (hZ a h2)) k.h M⟩,M⟩
theorem CB.next(B:CB prog w g T s0 ρ0 m0 HE cenv Y ρ1 n1 s ρ m fr)(S:OK prog w g s' ρ' m')(V:dh T0 s ρ m s' ρ' m')(F:dw HE cenv fD g s' ρ' m'.n)(hT0:∀a o,s0.heap.get? a=some o->T0 a->T a)(hTY:∀a,Y a->¬T0 a)(hex:∀a,Y a->∃o,s.heap.get? a=some o/\¬l9 o):
  CB prog w g T s0 ρ0 m0 HE cenv Y ρ1 n1 s' ρ' m' fD/\∀a o,Y a->s.heap.get? a=some o->s'.heap.get? a=some o:=by
 obtain⟨h1,h2⟩:=V.hidden (fun a ha=>(hex a ha).elim fun o q=>⟨o,q.1⟩) B.qp hTY;exact⟨⟨S,B.dP.trans V hT0,fun i hi=>(V.ix i (eD hi B.n)).trans (B.ix i hi),jb B.n V.n,h1,F⟩,h2⟩
end
section
variable {prog:Program}{w:World}{A:Around}{env:Env}{R:Result->Shared->Prop}{I:Nat->Shared->Prop}{aU:Expr}{it:Value}{body:List Stmt}{n:Nat}
def ac6(R:Result->Shared->Prop)(I:Nat->Shared->Prop)(n:Nat):Flow->Shared->Prop
 | .next,s=>∃m,m<n/\I m s
 | .cont,s=>∃m,m<n/\I m s
 | .brk,s=>R (.ok .next) s
 | .ret v,s=>R (.ok (.ret v)) s
def ac7(prog:Program)(w:World)(A:Around)(env:Env)(body:List Stmt)(R:Result->Shared->Prop)(I:Nat->Shared->Prop)(n:Nat)(s:Shared):Prop:=ay s cX A (model prog w) (ac6 R I n) (execs body env)
def ac8(prog:Program)(w:World)(A:Around)(env:Env)(aU:Expr)(v:Value)(body:List Stmt)(R:Result->Shared->Prop)(I:Nat->Shared->Prop)(n:Nat)(s:Shared):Prop:=ay s cX A (model prog w) (fun ψ=>ac7 prog w A env body R I n) (assign aU env v)
def ac9(prog:Program)(w:World)(A:Around)(env:Env)(aU:Expr)(it:Value)(body:List Stmt)(R:Result->Shared->Prop)(I:Nat->Shared->Prop)(n:Nat):Option Value->Shared->Prop
 |none,s=>R (.ok .next) s
 |some v,s=>ay s cX A (model prog w) (fun ψ=>ac8 prog w A env aU v body R I n) (letOwnedTupleGo aU it v)
theorem HF(I:Nat->Shared->Prop)(turn:∀n s,I n s->∀I':Nat->Shared->Prop,(∀m s,I m s->I' m s)->ay s cX A (model prog w) (ac9 prog w A env aU it body R I' n) (pyNext it))(n:Nat){s:Shared}(h:I n s):cQ (model prog w) A (.forLoop aU it body [] env) R s:=by
 refine yV I (fun n s hI=>fa (au (turn n s hI I fun ψ ψ h=>h) (fun r s1 h1=> ?_) fun ψ ψ x=>x)) n h;cases r with
 |none=>exact aj (wpAny_execs_nil h1)
 |some v=>exact fa (au h1 (fun ψ s2 h2=>fa (au h2 (fun ψ s3 h3=>fa (au h3 (fun f s4 h4=>by cases f <;> exact h4) fun ψ ψ x=>x)) fun ψ ψ x=>x)) fun ψ ψ x=>x)
end
inductive ada (prog:Program) (w:World) (g:Heap) (s:Shared) (ρ:Nat->Addr) (m:MH) (sg:Sg) (env:Env) (X:Addr->Prop) (St:Nat->Heap->Prop) (ρ1:Nat->Addr) (n1:Nat) (src:Src) (N:Nat) (tg:MV->SM) (c:SM) (r:eG×av×MH) (j:Nat) (s':Shared):Prop where
 |mk (k:Nat) (ma:av) (ρ2:Nat->Addr) (m2:MH) (hj:j=N-k) (hk:k<=N) (B:CB prog w g (Own env) s ρ m sg env X ρ1 n1 s' ρ2 m2 ma) (st:St k s'.heap) (e:SM.loop src N tg c (N-k) ma m2=some r)
section
variable {n:Nat}{sg:Sg}
theorem dK{aU iter:Expr}{body:List Stmt}{p:Pos}{c:SM}(hi:ET n sg aU iter ci)(ht:rJ false sg aU tg)(hb:qR n sg body c)
  (hs:∀env x,foldedSetIterable iter env x=pure x):fX n sg (.For aU iter body [] p) (SM.forIn ci tg c):=by
 intro prog w A g env fr s ρ m hA S F;refine .of fun f fD m' e=> ?_;refine Kh fun Q1 hQ=> ?_;obtain⟨src,m1,N,e1,e2,e⟩:=SM.forIn_some e;refine L5 (hi _ _ _ A _ _ _ _ _ hA S F _ _ e1 N e2 _ fun it s1 ρ1 X St Md S1 V1 hX rk I=> ?_) (fun x=>hs env x);refine(?_:cQ (model prog w) A _ _ s1);have vl:Jj g s env X:=⟨fun a ha=>(hX a ha).1,fun a ha hx=>by
  obtain⟨_,_,o,e⟩:=F.own a ha;rw [(hX a hx).1] at e;exact cj e,fun a ha=>S.pg (hX a ha).1⟩
 refine HF (ada prog w g s ρ m sg env X St ρ1 m1.n src N tg c (f,fD,m')) ?_ (N-0) ⟨0,fr,ρ1,m1,rfl,Nat.zero_le _,⟨S1,V1.weak,fun ψ ψ=>rfl,dT _,fun a ha=>(hX a ha).2,F.dP V1⟩,rk,e⟩;clear S1 V1 hX rk e e2;intro j s2 J I2 PH;generalize hR:(fun(r:Result) (s':Shared)=>_)=R;cases J with
 |mk k ma ρ2 m2 hj hk B st e=>
 subst hj;have H2:Hid g s2 ρ2 m2 X:=⟨vl.g,B.qp,fun a o ha eo=>by
  obtain⟨o',q1,q2⟩:=I.ex k _ st a ha;exact dZ (q1.symm.trans eo)▸q2⟩
 rcases Nat.lt_or_ge k N with j_|u7
 ·obtain⟨r,hr⟩:∃r,N-k=r+1:=⟨N-k-1,Wj j_⟩;rw [hr] at e ⊢;have CV:N-(k+1)=r:=Wg j_ hr;obtain⟨v,Mr,m5,⟨hlen,hv,e5⟩,e⟩:=SM.HD (Wk j_ hr) e;refine I.next s2 ρ2 m2 k v _ j_ B.ok B.ix B.n hlen hv st H2 fun u s3 k3 EV r3=> ?_;obtain⟨B3,M3⟩:=B.kN vl (fun ψ h=>h) H2.nM k3;refine I.quiet (k+1) s3 u _ EV fun s4 k4 xb=> ?_;obtain⟨B4,M4⟩:=B3.kN vl (fun ψ h=>h) (fun a o ha eo=>by
   obtain⟨o',q1,q2⟩:=I.PF _ _ _ EV a ha;exact dZ (q1.symm.trans eo)▸q2) k4
  refine aj (ht _ _ A _ _ _ _ _ _ _ _ hA.2.2 B4.ok B4.zc (r3.mono M4) _ _ _ e5 _ _ fun s5 ρ5 S5 V5 F5 ψ=> ?_);obtain⟨B5,k5⟩:=B4.next S5 V5 F5 (fun ψ ψ ψ h=>h) (fun a ha q=>vl.own a q ha) (I.ex _ _ xb);have pY:=I.u6 _ _ _ xb k5;cases e6:c Mr m5 with
  |none=>rw [e6] at e;exact cj e
  |some x=>
   obtain⟨f6,Uh,m6⟩:=x;rw [e6] at e;refine(hb _ _ A _ _ _ _ _ _ hA B5.ok B5.zc).step e6 fun fl s6 ρ6 S6 V6 r6 F6=> ?_;obtain⟨B6,k6⟩:=B5.next S6 V6 F6 (fun ψ ψ ψ h=>h) (fun a ha q=>vl.own a q ha) (I.ex _ _ pY);have EW:=I.u6 _ _ _ pY k6;have more:SM.loop src N tg c r Uh m6=some (f,fD,m')->∃j,j<r+1/\I2 j s6:=fun e=>⟨r,gA _,PH _ _ ⟨k+1,Uh,ρ6,m6,CV.symm,j_,B6,EW,CV.symm▸e⟩⟩;cases f6 with
   |next=>cases r6;exact more e
   |cont=>cases r6;exact more e
   |brk=>
    cases r6;obtain⟨rfl,rfl,rfl⟩:=Prod.mk.inj (dZ e) |>.imp_right Prod.mk.inj
    subst hR;exact hQ _ _ ⟨ρ6,S6,B6.dP,.next,F6⟩
   |ret v'=>
    obtain⟨rfl,rfl,rfl⟩:=Prod.mk.inj (dZ e) |>.imp_right Prod.mk.inj
    subst hR;cases r6 with|ret r6=>exact hQ _ _ ⟨ρ6,S6,B6.dP,.ret r6,F6⟩
 ·obtain rfl:k=N:=Nat.le_antisymm hk u7;rw [Nat.sub_self] at e ⊢;obtain⟨hlen,q⟩:=SM.HC e;obtain⟨rfl,rfl,rfl⟩:=Prod.mk.inj q |>.imp_right Prod.mk.inj
  refine I.done s2 ρ2 m2 _ B.ok B.ix B.n hlen st H2 fun s3 k3=> ?_;obtain⟨B3,M3⟩:=B.kN vl (fun ψ h=>h) H2.nM k3;subst hR;exact hQ _ _ ⟨ρ2,B3.ok,B3.dP,.next,B3.zc⟩
end
end
section
variable {sc scope:Scope}{env:Env}{α:Type}
noncomputable def gX(src:Src)(n:Nat)(tg:MV->SM)(test:av->MM Bool)(dy:av->MM MV):Nat->List MV->av->MH->Option (List MV×MH)
 |0=>fun ys fr m=>if src.len m=some n then some (ys,m) else none
 |r+1=>fun ys fr m=>if src.len m=some n then(src.item (n-(r+1)) m).bind fun v=>CU (fun el m1=>(test el m1).bind fun t=>bif t.1 then(dy el t.2).bind fun y=>gX src n tg test dy r (ys++ [y.1]) el y.2 else gX src n tg test dy r ys el t.2) (tg v fr m) else none
noncomputable def jf(ci:av->MM Src)(k:Nat)(idx:List Nat)(tg:MV->SM)(test:av->MM Bool)(dy:av->MM MV):av->MM MV:=fun fr m=>(ci fr m).bind fun x=>(x.1.len x.2).bind fun n=>if n<=100000 then(gX x.1 n tg test dy n [] (List.replicate k none++idx.map (slot fr)) x.2).bind fun y=>some (.obj y.2.n,y.2.new (.list y.1)) else none
noncomputable def yy(nm:List (Str×NameKind))(names:List (Str×NameKind)):List (Str×NameKind):=names.map fun x=>(x.1,if(x.2==NameKind.free&&nm.lookup x.1==some .cell)=true then NameKind.cell else x.2)
noncomputable def wa(sg:Sg)(sc:Scope):List Str->List Nat->Bool
 | []=>fun is=>is.isEmpty
 |x::xs=>fun is=>List.casesOn is false fun i is=>sg.ks[i]? ==some x&&(sg.nm.lookup x==some .cell&&(sc.names.lookup x==some .free&&wa sg sc xs is))
noncomputable def qr(sg:Sg)(sc:Scope)(own cap gs:List Str)(idx:List Nat):Bool:=
 sc.kind== .function&&(sc.names.all (fun x=>x.2 != .cell)&&(sc.names.all (fun x=>x.2 != .local||sc.names.lookup x.1==some .local)&&(sc.names.all (fun x=>x.2 != .free||sg.nm.lookup x.1==some .cell&&sg.ks.contains x.1)&&
 (own.all (fun x=>sc.names.lookup x==some .local)&&(gs.all (fun x=>sc.names.lookup x==some .globalImplicit)&&(decide (own++cap).Nodup&&((own++cap).all (fun x=> !(x==("__debug__":Str)))&&(gs.all (fun x=> !(x==("__debug__":Str)))&&wa sg sc cap idx))))))))
noncomputable abbrev iS(sg:Sg)(sc:Scope)(own cap gs:List Str):Sg:=⟨own++cap,gs,yy sg.nm sc.names⟩
theorem jg{nm:List (Str×NameKind)}{x:Str}:∀ {names:List (Str×NameKind)},(yy nm names).lookup x=(names.lookup x).map fun k=>if(k==NameKind.free&&nm.lookup x==some .cell)=true then NameKind.cell else k
 | []=>rfl
 |(n,k)::r=>by
  have ih:= @jg nm x r;unfold yy at ih ⊢;rw [List.map_cons,List.lookup_cons,List.lookup_cons];cases h:x==n with
  |true=>have:=eq_of_beq h;subst this;rfl
  |false=>exact ih
theorem Si{a b c d:Bool}(h:(a&&(b&&(c&&d)))=true):a=true/\b=true/\c=true/\d=true:=
 have p:=Bool.and_eq_true_iff.mp h;have q:=Bool.and_eq_true_iff.mp p.2;have r:=Bool.and_eq_true_iff.mp q.2;⟨p.1,q.1,r.1,r.2⟩
theorem wa.get{sg:Sg}:∀ {cap:List Str} {idx:List Nat},wa sg sc cap idx=true->∀ {j:Nat} {x:Str},cap[j]? =some x->∃i,idx[j]? =some i/\sg.ks[i]? =some x/\sg.nm.lookup x=some .cell/\sc.names.lookup x=some .free
 | [],_,_,_,_,e=>cj e
 |_::_, [],h,_,_,_=>Bool.noConfusion h
 |y::ys,i::is,h,0,x,e=>
  have h:=Si h
  (dZ e:y=x)▸⟨i,rfl,eq_of_beq h.1,eq_of_beq h.2.1,eq_of_beq h.2.2.1⟩
 |y::ys,i::is,h,j+1,x,e=>wa.get (cap:=ys) (idx:=is) (Si h).2.2.2 (j:=j) e
theorem EX(f:Str->Addr)(h:∀x∈scope.names,x.2= .free->env.cells.lookup x.1=some (f x.1)):closureFor scope env=pure ((scope.names.filter (·.2== .free)).map fun x=>(x.1,f x.1)).reverse:=by
 unfold closureFor;have key:∀(names:List (Str×NameKind)) (acc:List (Str×Addr)),(∀x∈names,x.2= .free->env.cells.lookup x.1=some (f x.1))->
   (forIn names acc fun(x:Str×NameKind) (r:List (Str×Addr))=>(do if x.2== .free then pure (ForInStep.yield ((x.1, <- cellOf env x.1)::r)) else pure (ForInStep.yield r):Sem _))=pure (((names.filter (·.2== .free)).map fun x=>(x.1,f x.1)).reverse++acc):=by
  intro names
  induction names with
  |nil=>intro acc _;simp
  |cons x names ih=>
   intro acc hx;rw [List.forIn_cons];have ih':=fun acc=>ih acc fun y hy=>hx y (.tail _ hy);cases hb:x.2==NameKind.free with
   |false=>simpa [hb] using ih' acc
   |true=>
    have h1:=hx x (.head _) (by simpa using hb);have h2:cellOf env x.1=pure (f x.1):=by delta cellOf;rw [h1]
    simpa [hb,h2] using ih' ((x.1,f x.1)::acc)
 have:=key scope.names [] h
 simpa using this
theorem lookup_mem:∀ {l:List (Str×α)} {x:Str} {a:α},l.lookup x=some a->(x,a)∈l
 | [],_,_,h=>by simp at h
 |(y,v)::l,x,a,h=>by
  rw [List.lookup_cons] at h;cases e:x==y with
  |true=>rw [e] at h;cases h;have:=eq_of_beq e;subst this;exact .head _
  |false=>rw [e] at h;exact .tail _ (lookup_mem h)
theorem rK:∀ {l:List (Str×α)} {x:Str} {a:α},(∀b,(x,b)∈l->b=a)->(x,a)∈l->l.lookup x=some a
 | [],_,_,_,h=>by simp at h
 |(y,v)::l,x,a,hf,h=>by
  rw [List.lookup_cons];cases e:x==y with
  |true=>have:=eq_of_beq e;subst this;rw [hf v (.head _)]
  |false=>
   refine rK (fun b hb=>hf b (.tail _ hb)) ?_;rcases List.mem_cons.mp h with q|q
   ·cases q;simp at e
   ·exact q
theorem CW(h:∀x∈scope.names,x.2= .free->∃a,env.cells.lookup x.1=some a):∃cl,closureFor scope env=pure cl/\(∀x a,cl.lookup x=some a->env.cells.lookup x=some a)/\∀x,scope.names.lookup x=some .free->cl.lookup x=env.cells.lookup x:=by
 have h':∀x∈scope.names,x.2= .free->env.cells.lookup x.1=some ((env.cells.lookup x.1).getD 0):=fun x hx hf=>by
  obtain⟨a,e⟩:=h x hx hf;rw [e];rfl
 refine⟨_,EX (fun x=>(env.cells.lookup x).getD 0) h',fun x a e=> ?_,fun x hx=> ?_⟩
 ·have:=lookup_mem e;rw [List.mem_reverse,List.mem_map] at this;obtain⟨⟨y,k⟩,hy,q⟩:=this;cases q;rw [List.mem_filter] at hy;exact h' _ hy.1 (by simpa using hy.2)
 ·have hm:=lookup_mem hx;obtain⟨a,e⟩:=h _ hm rfl;rw [e];refine rK (fun b hb=> ?_) ?_
  ·rw [List.mem_reverse,List.mem_map] at hb;obtain⟨⟨y,k⟩,hy,q⟩:=hb;cases q;rw [e];rfl
  ·rw [List.mem_reverse,List.mem_map];exact⟨(x,.free),List.mem_filter.mpr ⟨hm,rfl⟩,by dsimp only;rw [e];rfl⟩
section
variable {prog:Program}{w:World}{g:Heap}{A:Around}{s s' s0:Shared}{ρ ρ' ρ0:Nat->Addr}{m m' m0:MH}{sg:Sg}{env:Env}{fr:av}
theorem EY{own cap gs:List Str}{idx:List Nat}{cl:List (Str×Addr)}{C:Addr}(hc:qr sg sc own cap gs idx=true)(F:dw sg env fr g s ρ m.n)(S:OK prog w g s ρ m)
  (h1:∀x a,cl.lookup x=some a->env.cells.lookup x=some a)(h2:∀x,sc.names.lookup x=some .free->cl.lookup x=env.cells.lookup x){mp:Str->Option Value}(hC:s.heap.Ns C mp)(EZ:g.get? C=none)(Ko:∀i,i<m.n->ρ i≠C):
  dw (iS sg sc own cap gs) (compEnvC sc cl C env) (List.replicate own.length none++idx.map (slot fr)) g s ρ m.n:=by
 simp only [qr,Bool.and_eq_true,beq_iff_eq,List.all_eq_true,bne_iff_ne,Bool.or_eq_true,decide_eq_true_eq,Bool.not_eq_true'] at hc;obtain⟨hk,rL,yw,Ms,BN,hgs,HG,Mt,Mu,adg⟩:=hc;have hnm:(relabel sc env).names=yy sg.nm sc.names:=by
  refine List.map_congr_left fun x hx=> ?_;obtain⟨n,k⟩:=x;have:env.kindOf n=sg.nm.lookup n:=by unfold Env.kindOf;rw [F.ev.nm]
  simp only [F.ev.kind,this,beq_self_eq_true,Bool.and_true]
  split <;> rfl
 have Mv:=fun {j:Nat} {x:Str} (e:cap[j]? =some x)=>wa.get adg e;have ue:∀ {j:Nat} {x:Str},(own++cap)[j]? =some x->(sc.names.lookup x=some .local/\j<own.length)\/(∃i,idx[j-own.length]? =some i/\sg.ks[i]? =some x/\sg.nm.lookup x=some .cell/\sc.names.lookup x=some .free/\own.length<=j):=fun {j x} e=>by
  by_cases h:j<own.length
  ·rw [List.getElem?_append_left h] at e;exact .inl ⟨BN x (jB e),h⟩
  ·rw [List.getElem?_append_right (Nat.le_of_not_lt h)] at e;obtain⟨i,a,b,c,d⟩:=Mv e;exact .inr ⟨i,a,b,c,d,Nat.le_of_not_lt h⟩
 refine⟨⟨hk,hnm,F.ev.PB,F.ev.bui,fun x hx=> ?_,fun x hx=> ?_,HG,fun x hx=>Mt x hx,fun x hx=>Mu x hx⟩,⟨mp,hC,fun j x hj hl=> ?_⟩,fun j x hj hl=> ?_,fun a ha=> ?_,fun x y a hx hy=>F.ap x y a (h1 x a hx) (h1 y a hy)⟩
 ·rw [jg];obtain⟨j,hj⟩:=List.getElem?_of_mem hx;rcases ue hj with⟨e,_⟩|⟨i,_,_,e1,e2,_⟩
  ·left;rw [e];rfl
  ·right;rw [e2,Option.map_some,e1];rfl
 ·rw [jg,hgs x hx];rfl
 ·rw [jg] at hl;rcases ue hj with⟨_,h⟩|⟨i,_,_,e1,e2,_⟩
  ·have:slot (List.replicate own.length none++idx.map (slot fr)) j=none:=by
    unfold slot;rw [List.getElem?_append_left (by simpa using h),List.getElem?_replicate];simp [h]
   rw [this];trivial
  ·rw [e2,Option.map_some,e1] at hl;simp at hl
 ·rw [jg] at hl;rcases ue hj with⟨e,h⟩|⟨i,a,b,e1,e2,h⟩
  ·rw [e] at hl;simp at hl
  ·obtain⟨c,v,q1,q2,q3⟩:=F.y0 i x b e1;refine⟨c,v,(h2 x e2).trans q1,q2, ?_⟩;have:slot (List.replicate own.length none++idx.map (slot fr)) j=slot fr i:=by
    conv=>lhs;unfold slot
    rw [List.getElem?_append_right (by simpa using h),List.length_replicate,List.getElem?_map,a]
    rfl
   rw [this];exact q3
 ·rcases ha with rfl|⟨x,hx⟩
  ·obtain⟨o,es,ep,e,_⟩:=hC;exact⟨EZ,Ko,o,e⟩
  ·exact F.own a (.inr ⟨x,h1 x a hx⟩)
end
end
section
variable {ci:av->MM Src}{k line n:Nat}{idx:List Nat}{tg:MV->SM}{test:av->MM Bool}{dy iter aU:Expr}{fr:av}{m:MH}{src:Src}{ys:List MV}{r:List MV×MH}{sc scope:Scope}{pos py:Pos}{s:Shared}{prog:Program}{w:World}{g:Heap}{A:Around}{ifs:List Expr}{env:Env}{ce:av->MM MV}{cap gs own:List Str}{gens:List Comprehension}{y:Str}
noncomputable def tests(env:Env)(ifs:List Expr):Sem Bool:=forIn ifs true fun c r=>if r=true then do let ok <- PySem.isTrue c env (eval c env);pure (ForInStep.yield ok) else pure (ForInStep.yield r)
def zd(n:Nat)(sg:Sg)(ifs:List Expr)(c:av->MM Bool):Prop:=
 ∀prog w A g env fr s ρ m,dj n A->OK prog w g s ρ m->dw sg env fr g s ρ m.n->Comes Ua s ρ m prog w g A (c fr m) (tests env ifs)
section
variable {n:Nat}{sg:Sg}
theorem c_:zd n sg [] (Kc true):=by
 intro prog w A g env fr s ρ m hA S F;exact Comes.pure S fun K k=>ax (k _ _ rfl rfl rfl rfl)
theorem wb{e:Expr}{c:av->MM Bool}(h:qQ n sg e c):zd n sg [e] c:=by
 intro prog w A g env fr s ρ m hA S F;refine .of fun b m' e1=> ?_;unfold tests;rw [List.forIn_cons];refine af ?_;rw [if_pos rfl];refine af ((h _ _ A _ _ _ _ _ _ hA S F).step e1 fun a s1 ρ1 S1 V1 r1=>ax ?_);exact ax ⟨ρ1,S1,V1,r1⟩
end
theorem E0{dy:av->MM MV}{r:MV×MH}(e:jf ci k idx tg test dy fr m=some r):
  ∃src m1 N zs mz,ci fr m=some (src,m1)/\src.len m1=some N/\N<=100000/\gX src N tg test dy N [] (List.replicate k none++idx.map (slot fr)) m1=some (zs,mz)/\(MV.obj mz.n,mz.new (.list zs))=r:=by
 obtain⟨x,e1,e⟩:=bj e;obtain⟨N,e2,e⟩:=bj e;obtain⟨hN,e⟩:=zb e;obtain⟨y,e3,e⟩:=bj e;exact⟨x.1,x.2,N,y.1,y.2,e1,e2,hN,e3,dZ e⟩
theorem CX{dy:av->MM MV}(e:gX src n tg test dy 0 ys fr m=some r):src.len m=some n/\(ys,m)=r:=ky e
theorem CY{j:Nat}{dy:av->MM MV}(hj:n-(j+1)=k)(e:gX src n tg test dy (j+1) ys fr m=some r):
  ∃v el m1 t m2,Turn src n tg k fr m v el m1/\test el m1=some (t,m2)/\(bif t then(dy el m2).bind fun y=>gX src n tg test dy j (ys++ [y.1]) el y.2 else gX src n tg test dy j ys el m2)=some r:=by
 obtain⟨hl,e⟩:=zb e;rw [hj] at e;obtain⟨v,e1,e⟩:=bj e;obtain⟨el,m1,e2,e⟩:=w_ e;obtain⟨t,e3,e⟩:=bj e;exact⟨v,el,m1,t.1,t.2,⟨hl,e1,e2⟩,e3,e⟩
section
variable {prog:Program}{w:World}{A:Around}{env:Env}{R:Result->Shared->Prop}{I:Nat->Shared->Prop}{dy aU iter:Expr}{ifs:List Expr}{it acc:Value}{n:Nat}
def adh(prog:Program)(w:World)(A:Around)(env:Env)(dy:Expr)(acc:Value)(I:Nat->Shared->Prop)(n:Nat)(ok:Bool)(s:Shared):Prop:=
 bif ok then ay s cX A (model prog w) (fun x s9=>ay s9 cX A (model prog w) (fun ψ s₅=>∃m,m<n/\I m s₅) (call (.builtin "list.append") [acc,x])) (eval dy env) else∃m,m<n/\I m s
def adi(prog:Program)(w:World)(A:Around)(env:Env)(aU:Expr)(ifs:List Expr)(dy:Expr)(acc v:Value)(I:Nat->Shared->Prop)(n:Nat)(s:Shared):Prop:=
 ay s cX A (model prog w) (fun ψ s9=>ay s9 cX A (model prog w) (adh prog w A env dy acc I n) (tests env ifs)) (assign aU env v)
def adj(prog:Program)(w:World)(A:Around)(env:Env)(aU:Expr)(ifs:List Expr)(dy:Expr)(it acc:Value)(R:Result->Shared->Prop)(I:Nat->Shared->Prop)(n:Nat):Option Value->Shared->Prop
 |none,s=>R (.ok .next) s
 |some v,s=>ay s cX A (model prog w) (fun ψ=>adi prog w A env aU ifs dy acc v I n) (letOwnedTupleGo aU it v)
theorem HH(I:Nat->Shared->Prop)(turn:∀n s,I n s->∀I':Nat->Shared->Prop,(∀m s,I m s->I' m s)->ay s cX A (model prog w) (adj prog w A env aU ifs dy it acc R I' n) (pyNext it))(n:Nat)(h:I n s):
  cQ (model prog w) A (.compLoop (.ListComp dy [⟨aU,iter,ifs,0⟩] scope pos) 0 it acc env) R s:=by
 refine xK I (fun n s hI=>fa (au (turn n s hI I fun ψ ψ h=>h) (fun r s1 h1=> ?_) fun ψ ψ x=>x)) n h;cases r with
 |none=>exact h1
 |some v=>
  refine fa (au h1 (fun ψ s2 h2=>fa (au h2 (fun ψ s3 h3=>fa (au h3 (fun ok s4 h4=> ?_) fun ψ ψ x=>x)) fun ψ ψ x=>x)) fun ψ ψ x=>x);cases ok with
  |false=>exact h4
  |true=>exact fa (au (show ay _ _ _ _ _ _ from h4) (fun ψ s5 h5=>fa h5) fun ψ ψ x=>x)
end
inductive adk (prog:Program) (w:World) (g:Heap) (s:Shared) (ρ:Nat->Addr) (m:MH) (sg:Sg) (env:Env) (Y:Addr->Prop) (D:Addr) (St:Nat->Heap->Prop) (ρ1:Nat->Addr) (n1:Nat) (src:Src) (N:Nat) (tg:MV->SM) (test:av->MM Bool) (ce:av->MM MV) (r:List MV×MH) (j:Nat) (s':Shared):Prop where
 |mk (k:Nat) (ma:av) (ρ2:Nat->Addr) (m2:MH) (ys:List MV) (us:List Value) (ep:Nat) (hj:j=N-k) (hk:k<=N) (B:CB prog w g fk s ρ m sg env Y ρ1 n1 s' ρ2 m2 ma) (st:St k s'.heap) (hD:s'.heap.get? D=some (fO us ep)) (AZ:bI ρ2 m2.n s'.heap ys us) (PK:us.length<=k) (e:gX src N tg test ce (N-k) ys ma m2=some r)
section
variable {n:Nat}{sg:Sg}
theorem HI{D:Addr}{X:Addr->Prop}{St:Nat->Heap->Prop}{Md:Nat->Heap->Value->Prop}{it:Value}{N n1:Nat}
  {s s4:Shared}{ρ ρ1:Nat->Addr}{m m1 mz:MH}{u9:av}{zs:List MV}{R:Result->Shared->Prop}(ht:rJ true sg aU tg)(hq:zd n sg ifs test)(he:ph prog w g n sg dy ce)(hA:dj n A)(vl:Jj g s env fun a=>X a\/a=D)(hC:s.heap.get? env.locals=none)(PL:∀a,X a->a≠D)
  (I:kP prog w g A aU src N it X St Md ρ1 n1)(hN:N<=100000)(B:CB prog w g fk s ρ m sg env (fun a=>X a\/a=D) ρ1 n1 s4 ρ1 m1 u9)(rk:St 0 s4.heap)(hD:s4.heap.get? D=some (fO [] 0))(e:gX src N tg test ce N [] u9 m1=some (zs,mz))
  (fin:∀s' ρ' us ep fr,CB prog w g fk s ρ m sg env (fun a=>X a\/a=D) ρ1 n1 s' ρ' mz fr->s'.heap.get? D=some (fO us ep)->bI ρ' mz.n s'.heap zs us->R (.ok .next) s'):
  cQ (model prog w) A (.compLoop (.ListComp dy [⟨aU,iter,ifs,0⟩] sc pos) 0 it (.ref D) env) R s4:=by
 refine HH (adk prog w g s ρ m sg env (fun a=>X a\/a=D) D St ρ1 n1 src N tg test ce (zs,mz)) ?_ (N-0) ⟨0,_,ρ1,m1, [], [],0,rfl,Nat.zero_le _,B,rk,hD,.nil,dT _,e⟩;clear B rk hD e;generalize hY:(fun a=>X a\/a=D)=Y at vl fin ⊢;have E2:∀a,X a->Y a:=fun a h=>hY▸ .inl h;have PM:Y D:=hY▸ .inr rfl;have hY:∀a,Y a->X a\/a=D:=fun a h=>by rw [<- hY] at h;exact h
 intro j s2 J I2 PH;cases J with
 |mk k ma ρ2 m2 ys us ep hj hk B st hD AZ PK e=>
 subst hj;have ex:∀ {k h us ep},St k h->h.get? D=some (fO us ep)->∀a,Y a->∃o,h.get? a=some o/\¬l9 o:=fun st hD a ha=>(hY a ha).elim (I.ex _ _ st a) fun q=>⟨_,q▸hD,iq rfl rfl rfl⟩;have H2:Hid g s2 ρ2 m2 X:=⟨fun a ha=>vl.g a (E2 a ha),fun a ha=>B.qp a (E2 a ha),fun a o ha eo=>by
  obtain⟨o',q1,q2⟩:=I.ex k _ st a ha;exact dZ (q1.symm.trans eo)▸q2⟩
 rcases Nat.lt_or_ge k N with j_|u7
 ·obtain⟨r,hr⟩:∃r,N-k=r+1:=⟨N-k-1,Wj j_⟩;rw [hr] at e ⊢;have CV:N-(k+1)=r:=Wg j_ hr;obtain⟨v,Mr,m5,t,m6,⟨hlen,hv,e5⟩,e6,e⟩:=CY (Wk j_ hr) e;refine I.next s2 ρ2 m2 k v _ j_ B.ok B.ix B.n hlen hv st H2 fun u s3 k3 EV r3=> ?_;obtain⟨B3,M3⟩:=B.kN vl E2 H2.nM k3;have HJ:=k3.h _ _ (fun q=>PL _ q rfl) hD;refine I.quiet (k+1) s3 u _ EV fun s4 k4 xb=> ?_;obtain⟨B4,M4⟩:=B3.kN vl E2 (fun a o ha eo=>by
   obtain⟨o',q1,q2⟩:=I.PF _ _ _ EV a ha;exact dZ (q1.symm.trans eo)▸q2) k4
  have PN:=k4.h _ _ (fun q=>PL _ q rfl) HJ;have ys4:=(AZ.mono M3).mono M4;refine aj (ht _ _ A _ _ _ _ _ _ _ _ hA.2.2 B4.ok B4.zc (r3.mono M4) _ _ _ e5 _ _ fun s5 ρ5 S5 V5 F5 ψ=> ?_);have V5:dh (fun a=>a=env.locals) s4 ρ2 m2 s5 ρ5 m5:=V5;obtain⟨B5,k5⟩:=B4.next S5 V5 F5 (fun a o e q=>by rw [q,hC] at e;exact cj e) (fun a ha q=>vl.own a (.inl q) ha) (ex xb PN);have pY:=I.u6 _ _ _ xb fun a o ha=>k5 a o (E2 a ha);have Mw:=k5 _ _ PM PN;have ys5:=ys4.mono V5.mono;refine(hq _ _ A _ _ _ _ _ _ hA B5.ok B5.zc).step e6 fun tt s6 ρ6 S6 V6 r6=> ?_;subst r6;obtain⟨B6,k6⟩:=B5.next S6 V6 (B5.zc.dP V6) (fun ψ ψ ψ q=>q) (fun ψ ψ q=>q) (ex pY Mw);have EW:=I.u6 _ _ _ pY fun a o ha=>k6 a o (E2 a ha);have Uj:=k6 _ _ PM Mw;have ys6:=ys5.mono V6.mono;cases tt with
  |false=>exact⟨r,gA _,PH _ _ ⟨k+1,Mr,ρ6,m6,ys,us,ep,CV.symm,j_,B6,EW,Uj,ys6,Nat.le_succ_of_le PK,CV.symm▸e⟩⟩
  |true=>
   obtain⟨⟨y,m8⟩,e8,e⟩:=bj e;refine(he A _ _ _ _ _ hA B6.ok B6.zc).step e8 fun u8 s8 ρ8 S8 V8 r8=> ?_;obtain⟨B8,k8⟩:=B6.next S8 V8 (B6.zc.dP V8) (fun ψ ψ ψ q=>q) (fun ψ ψ q=>q) (ex EW Uj);have adm:=I.u6 _ _ _ EW fun a o ha=>k8 a o (E2 a ha);have hD8:=k8 _ _ PM Uj;have ys8:=ys6.mono V8.mono;refine aj (wpAny_list_append_plain (items:=us.toArray) (hsz:=by rw [fW,sizeLine_eq];exact Wx hN PK j_) ⟨_,hD8⟩ fun h9 LX hs9=> ?_);obtain⟨ep9,LX⟩:=LX;obtain⟨B9,M9⟩:=B8.kN (Z:=fun a=>a=D) (s':= {s8 with heap:=h9}) vl (fun a ha=>ha▸PM) (fun a o ha eo=>by
    rw [ha,hD8] at eo;exact dZ eo▸iq rfl rfl rfl) ⟨fun a o ha eo=>(hs9.2 a ha).trans eo,rfl,rfl⟩
   refine⟨r,gA _,PH _ _ ⟨k+1,Mr,ρ8,m8,ys++ [y],us++ [u8],ep9,CV.symm,j_,B9,I.u6 _ _ _ adm (fun a o ha eo=>(hs9.2 a (PL a ha)).trans eo), ?_,((ys8.append (.cons r8 .nil)).mono M9),by rw [ip,List.length_singleton];exact Nat.succ_le_succ PK,CV.symm▸e⟩⟩
   simpa [fO] using LX
 ·obtain rfl:k=N:=Nat.le_antisymm hk u7;rw [Nat.sub_self] at e ⊢;obtain⟨hlen,q⟩:=CX e;obtain⟨rfl,rfl⟩:=Prod.mk.inj q;refine I.done s2 ρ2 m2 _ B.ok B.ix B.n hlen st H2 fun s3 k3=> ?_;obtain⟨B3,M3⟩:=B.kN vl E2 H2.nM k3;exact fin s3 ρ2 us ep ma B3 (k3.h _ _ (fun q=>PL _ q rfl) hD) (AZ.mono M3)
def CZ(prog:Program)(w:World)(g:Heap)(A:Around)(use:Option (Value->Sem Unit))(Q:Value->Shared->Prop)(s:Shared)(ρ:Nat->Addr)(m:MH)(b:MV)(m':MH):Prop:=
 ∀D C s' ρ' mp,OK prog w g s' ρ' m'->dh fk s ρ m s' ρ' m'->a_ ρ' m'.n s'.heap b (.ref D)->s'.heap.Ns C mp->s.heap.get? C=none->g.get? C=none->(∀i,i<m'.n->ρ' i≠C)->qm (model prog w) A cX use Q (.ref D) C (.ok .next) s'
theorem ze{pos':Pos}
  (hc:qr sg sc own cap gs idx=true)(hi:CS prog w g n sg aU iter ci)(ht:rJ true (iS sg sc own cap gs) aU tg)(hq:zd n (iS sg sc own cap gs) ifs test)(he:ph prog w g n (iS sg sc own cap gs) dy ce)
  (hs:∀env x,foldedSetIterable iter env x=pure x)
  {A:Around}{env:Env}{fr:av}{s:Shared}{ρ:Nat->Addr}{m:MH}(hA:dj n A)(S:OK prog w g s ρ m)(F:dw sg env fr g s ρ m.n){b:MV}{m':MH}(e:jf ci own.length idx tg test ce fr m=some (b,m'))
  {use:Option (Value->Sem Unit)}{Q:Value->Shared->Prop}(hK:CZ prog w g A use Q s ρ m b m'):
  ay s cX A (model prog w) Q (comprehension (.ListComp dy [⟨aU,iter,ifs,0⟩] sc pos) sc env pos' (newList []) false (eval iter env) use):=by
 have Hw:=hc;simp only [qr,Bool.and_eq_true,beq_iff_eq,List.all_eq_true,bne_iff_ne,Bool.or_eq_true,decide_eq_true_eq,Bool.not_eq_true'] at Hw;obtain⟨hk,rL,yw,Ms,_⟩:=Hw;obtain⟨cl,Hq,Sk,adp⟩:=CW (env:=env) (scope:=sc) (fun x hx hf=>by
  rcases Ms x hx with q|⟨q1,q2⟩
  ·exact absurd hf q
  ·obtain⟨i,hi⟩:=List.getElem?_of_mem (List.contains_iff_mem.mp q2);obtain⟨c,v,q,_⟩:=F.y0 i x.1 hi q1;exact⟨c,q⟩)
 obtain⟨src,m1,N,zs,mz,e1,e2,hN,e3,q⟩:=E0 e;obtain⟨rfl,rfl⟩:=Prod.mk.inj q;refine ub (gs:= []) rfl (fun x=>hs env x) Hq hk (fun x hx hl=>(yw x hx).resolve_left fun q=>q hl) (hi A _ _ _ _ _ hA S F _ _ e1 N e2 _ fun it s1 ρ1 X St Md S1 V1 hX rk I=> ?_);refine aj (wpAny_newObj_type ?_ (by size_fits));refine aj (wpAny_newFunctionEnv rL (by intro y hy;simp at hy) (fun h4 PQ uf=> ?_) hk);have HJ:(s1.heap.push (fO [] 0)).get? s1.heap.objs.size=some (fO [] 0):=iQ _ rfl;have C3:Sub s1.heap (s1.heap.push (fO [] 0)):=fun a o e=>gS _ e;have Kq:=cA s1.heap;generalize s1.heap.objs.size=D at PQ uf HJ Kq ⊢;have HK:(s1.heap.push (fO [] 0)).get? (s1.heap.push (fO [] 0)).objs.size=none:=cA _;generalize (s1.heap.push (fO [] 0))=h3 at PQ uf HJ C3 HK ⊢;generalize h3.objs.size=C at PQ uf HK ⊢;have HM:Sub h3 h4:=fun a o e=>uf.extBut a o (fun q=>by rw [q,HK] at e;exact cj e) (gS _ e);have hCD:C≠D:=fun q=>by rw [q,HJ] at HK;exact cj HK.symm
 have Um:s1.heap.get? C=none:=by
  cases q:s1.heap.get? C with
  |none=>rfl
  |some o=>exact cj (HK.symm.trans (C3 _ _ q))
 have rM:Sub s1.heap h4:=fun a o e=>HM a o (C3 a o e);have PN:=HM _ _ HJ;clear C3 HM uf HK HJ;generalize PR:({s1 with heap:=h4,toks:=s1.toks+([]:List (Str×Value)).length}:Shared)=s4;have hh4:s4.heap=h4:=by rw [<- PR]
 have Un:s4.os=s1.os:=by rw [<- PR]
 have hg4:s4.gens=s1.gens:=by rw [<- PR]
 clear PR;subst hh4;have S4:OK prog w g s4 ρ1 m1:=S1.grow rM;have V4:dh fk s ρ m s4 ρ1 m1:=V1.comp (.grow rM Un hg4);have hDs:s.heap.get? D=none:=V1.old Kq;have E3:s.heap.get? C=none:=V1.old Um;have EZ:g.get? C=none:=S.pg E3;have hXn:∀a o,X a->s1.heap.get? a=some o->s4.heap.get? a=some o:=fun a o ψ e=>rM a o e;have iZ:∀ {a b},X a->s1.heap.get? b=none->a≠b:=fun ha hb q=>by
  obtain⟨o,e,_⟩:=I.ex 0 _ rk _ ha;rw [q,hb] at e;exact cj e
 have F4:=EY hc (F.dP V4) S4 Sk adp PQ EZ (S1.lC Um);generalize iS sg sc own cap gs=SG at ht hq he F4;have BN:∀a,Own (compEnvC sc cl C env) a->a=C\/∃o,s.heap.get? a=some o:=fun a ha=>ha.imp id fun⟨x,hx⟩=>(F.own a (.inr ⟨x,Sk x a hx⟩)).2.2;have fY:(compEnvC sc cl C env).locals=C:=rfl;refine(?_:cQ (model prog w) A (.compStart (.ListComp dy [⟨aU,iter,ifs,0⟩] sc pos) 0 it (.ref D) (compEnvC sc cl C env)) (qm (model prog w) A cX use Q (.ref D) (compEnvC sc cl C env).locals) s4);generalize compEnvC sc cl C env=CE at F4 BN fY ⊢;have Uo:∀a,(X a\/a=D)->s.heap.get? a=none:=fun a ha=>ha.elim (fun q=>(hX a q).1) fun q=>q▸hDs;have vl:Jj g s CE fun a=>X a\/a=D:=⟨Uo,fun a ha hy=>by
  rcases BN a ha with rfl|⟨o,q⟩
  ·exact hy.elim (fun q=>iZ q Um rfl) hCD
  ·rw [Uo a hy] at q;exact cj q,fun a ha=>S.pg (Uo a ha)⟩
 have xb:=I.u6 0 _ _ rk hXn;have loop:cQ (model prog w) A (.compLoop (.ListComp dy [⟨aU,iter,ifs,0⟩] sc pos) 0 it (.ref D) CE) (qm (model prog w) A cX use Q (.ref D) CE.locals) s4:=by
  refine HI ht hq he hA vl (fY▸E3) (fun a ha=>iZ ha Kq) I hN ⟨S4,V4,fun ψ ψ=>rfl,dT _,fun a ha=>ha.elim (fun q=>(hX a q).2) (fun q=>q▸S1.lC Kq),F4⟩ xb PN e3 fun s' ρ' us ep fD B hD AZ=> ?_;subst fY;obtain⟨mp,hmp,_⟩:=B.zc.loc;refine hK D _ _ (eP ρ' mz.n D) mp (B.ok.new (a:=D) hD (vl.g D (.inr rfl)) (B.qp D (.inr rfl)) fun M=>⟨us,ep,rfl,AZ.mono M⟩) (B.dP.v8 hDs) ?_ hmp E3 EZ fun i hi=> ?_
  ·have:=a_.obj (ρ:=eP ρ' mz.n D) (n:=mz.n+1) (h:=s'.heap) (i:=mz.n) (gA _);rw [ei] at this;exact this
  ·change i<mz.n+1 at hi;rcases Nat.lt_succ_iff_lt_or_eq.mp hi with h|rfl
   ·rw [fC h];exact(B.zc.own _ (.inl rfl)).2.1 i h
   ·rw [ei];exact hCD.symm
 exact(v3 (h0:=loop) (h:=fa (I.self 0 s4 _ xb loop)))
theorem CZ.plain{ρ:Nat->Addr}{b:MV}{m':MH}:CZ prog w g A none (lu prog w g fk a_ s ρ m b m') s ρ m b m':=by
 intro D C s' ρ' mp S' V' r' hC C4 EZ Ko;refine⟨mp,hC,fun h' uf=> ?_⟩;have Up:∀a o,a=C->s'.heap.get? a=some o->¬l9 o:=fun a o ha eo=>by
  obtain⟨o',es,ep,e,d,_⟩:=hC;rw [ha,e] at eo;exact l9.notDict (dZ eo▸d)
 have H:Hid g s' ρ' m' (fun a=>a=C):=⟨fun a ha=>ha▸EZ,fun a ha=>ha▸Ko,Up⟩;have kk:∀a o,¬a=C->s'.heap.get? a=some o->h'.get? a=some o:=fun a o ha eo=>(uf.2 a ha).trans eo;exact⟨ρ',S'.kN (s':= {s' with heap:=h'}) H kk,V'.Mq (X:=fun a=>a=C) (fun a ha=>ha▸C4) kk rfl rfl,r'.mono (H.mono (s':= {s' with heap:=h'}) kk)⟩
theorem xc
  (hc:qr sg sc own cap gs idx=true)(hi:CS prog w g n sg aU iter ci)(ht:rJ true (iS sg sc own cap gs) aU tg)(hq:zd n (iS sg sc own cap gs) ifs test)(he:ph prog w g n (iS sg sc own cap gs) dy ce)
  (hs:∀env x,foldedSetIterable iter env x=pure x):ph prog w g n sg (.ListComp dy [⟨aU,iter,ifs,0⟩] sc pos) (jf ci own.length idx tg test ce):=by
 intro A env fr s ρ m hA S F;refine .of fun b m' e=> ?_;rw [eval_ListComp];exact ze hc hi ht hq he hs hA S F e CZ.plain
theorem cZ
  (hc:qr sg sc own cap gs idx=true)(hi:ET n sg aU iter ci)(ht:rJ true (iS sg sc own cap gs) aU tg)(hq:zd n (iS sg sc own cap gs) ifs test)(he:cD n (iS sg sc own cap gs) dy ce)
  (hs:∀env x,foldedSetIterable iter env x=pure x):cD n sg (.ListComp dy [⟨aU,iter,ifs,0⟩] sc pos) (jf ci own.length idx tg test ce):=
 fun prog w A g env fr s ρ m hA S F=>xc hc (hi prog w g) ht hq he.toG hs A env fr s ρ m hA S F
theorem E4:
  swapsWith (.ListComp dy gens scope pos) (some (.Name y py)) line env=pure (env.blockKind== .function&&env.kindOf y==some .local&&py.line==pos.line&& !(scope.names.any fun(n,k)=>n==y&&(k== .local||k== .cell))):=rfl
theorem Mx(ev:yZ sg env)(hl:sg.nm.lookup y=some .local)(hb:(py.line==pos.line&& !(scope.names.any fun(n,k)=>n==y&&(k== .local||k== .cell)))=true):
  swapsWith (.ListComp dy gens scope pos) (some (.Name y py)) line env=pure true:=by
 have h1:env.blockKind= .function:=by unfold Env.blockKind;rw [ev.kind];rfl
 have hk:env.kindOf y=some .local:=by unfold Env.kindOf;rw [ev.nm];exact hl
 refine E4.trans (congrArg pure ?_);rw [h1,hk];exact hb
theorem qt{adt:Pos}(i:Nat){x:Str}(hk:sg.ks[i]? =some x)(hl:sg.nm.lookup x=some .local)
  (hb:(py.line==pos.line&& !(sc.names.any fun(n,k)=>n==x&&(k== .local||k== .cell)))=true)
  (hc:qr sg sc own cap gs idx=true)(hi:ET n sg aU iter ci)(ht:rJ true (iS sg sc own cap gs) aU tg)(hq:zd n (iS sg sc own cap gs) ifs test)(he:cD n (iS sg sc own cap gs) dy ce)
  (hs:∀env x,foldedSetIterable iter env x=pure x):fX n sg (.Assign [.Name x py] (.ListComp dy [⟨aU,iter,ifs,0⟩] sc pos) adt) (SM.use (jf ci own.length idx tg test ce) (SM.put i)):=by
 intro prog w A g env fr s ρ m hA S F;refine .use fun v m' e1=> ?_;rw [exec_Assign_Name_used _ _ _ _ (Mx F.ev hl hb)];refine af (bx (af ?_));refine af (au (ze (use:=some (assign (.Name x py) env)) (Q:=fun ψ s'=>CR prog w g sg env s ρ m .next (fr.set i (some v)) m' .next s') hc (hi _ _ _) ht hq he.toG hs hA S F e1 fun D C s' ρ' mp S' V' r' hC C4 EZ Ko=> ?_) (fun ψ s' hq=>ax (ax hq)) fun ψ ψ e=>e);refine aj (wpAny_assign_Name (nt i S' (F.dP V') hk r' fun s2 S2 V2 ψ F2=> ?_));have hCo:¬Own env C:=fun ho=>by
  obtain⟨_,_,o,e⟩:=F.own C ho;rw [C4] at e;cases e
 obtain⟨o,es,ep,eC,dC,rC⟩:=hC;have eC2:=V2.keep C o eC Ko hCo;refine⟨mp,⟨o,es,ep,eC2,dC,rC⟩,fun h' uf=> ?_⟩;have Up:∀a o,a=C->s2.heap.get? a=some o->¬l9 o:=fun a o' ha eo=>by
  rw [ha,eC2] at eo;cases eo;exact l9.notDict dC
 have H:Hid g s2 ρ' m' (fun a=>a=C):=⟨fun a ha=>ha▸EZ,fun a ha=>ha▸Ko,Up⟩;have kk:∀a o,¬a=C->s2.heap.get? a=some o->h'.get? a=some o:=fun a o ha eo=>(uf.2 a ha).trans eo;exact⟨ρ',S2.kN (s':= {s2 with heap:=h'}) H kk,(V'.weak.comp V2).Mq (X:=fun a=>a=C) (fun a ha=>ha▸C4) kk rfl rfl,.next,F2.qp (X:=fun a=>a=C) (fun a ha q=>hCo (q▸ha)) kk (H.mono (s':= {s2 with heap:=h'}) kk)⟩
end
end
section
theorem ir{prog:Program}{w:World}{A:Around}{s:Shared}{R:Result->Shared->Prop}{id:String}{args:Args}{b:Builtin}(fY:jY (.builtin id args)=true)(hq:(Code.builtin id args).quiet=true)(hb:entryFor table id=some b)
  (h:ay s (fun e s'=>R (.error e) s') A.in1 (model prog w) (fun ψ s₁=>ay s₁ (fun e s'=>R (.error e) s') (A.under (.builtin id args)) (model prog w) (fun fin s'=>match fin with| .done f=>R (.ok f) s'| .again c'=>c'.quiet=true/\cQ (model prog w) A c' R s') (b args)) (checkBuiltinCall id args)):cQ (model prog w) A (.call (.builtin id) args) R s:=by
 refine dE rfl ?_;show ay s _ A.in1 _ _ (do checkBuiltinCall id args;again (.builtin id args));refine af (au h (fun ψ s₁ h₁=>ax (And.intro hq (dE fY ?_))) fun ψ ψ h'=>h');show ay s₁ _ _ _ _ (match entryFor table id with|some b=>b args|none=>unsupported ((withoutEnding? id "#data").getD id));rw [hb];exact h₁
section
variable {prog:Program}{w:World}{A:Around}{K:Frag}{C:Addr}{R:Result->Shared->Prop}{h:Heap}{g:Array GenState}{d:Drawn}{t:Nat}{os:OsState}
theorem My{rest:List Value}{kw:List (Str×Value)}{init:Value}(Y:Makes (model prog w) h C)(hi:Looks (model prog w) h (typeLookup (.ref C) "__init__") (some init))
  (hb:∀self,Looks (model prog w) h (bindSpecial init self) (init, [self]))(iZ:(some init != some (Value.builtin "object.__init__"))=true\/(rest= []/\kw= []))
  (hq:cQ (model prog w) (A.under (.builtin "type.__call__" ⟨.ref C::rest,kw⟩)) (.call init ⟨.ref (h.objs.size+1)::rest,kw⟩) (InitBack (h.objs.size+1) R) ⟨(h.push emptyDict).push (instObj C h.objs.size),g,d,t,os⟩):
  cQ (model prog w) A (.call (.ref C) ⟨rest,kw⟩) R ⟨h,g,d,t,os⟩:=by
 have Y':=Y;obtain⟨⟨oc,od,cd,sl,hC,e1,e2,e4⟩,made,base,self,top,call,typ⟩:=Y;refine dE rfl (aj ?_);show wpAny _ _ (callAny (.ref C) _) _ _ _;refine nd_load hC ?_;show wpAny _ _ (callAny.viaDunder (.ref C) _) _ _ _;unfold callAny.viaDunder;refine aN (call.at ?_);dsimp only;rw [tc_bind];refine aN (cP (aN (cP ?_)));refine cP (a:=Fin.again (.call (.builtin "type.__call__") ⟨.ref C::rest,kw⟩)) (And.intro rfl ?_);refine ir rfl (Code.quiet_builtin _ (by decide +kernel)) entry_typeCall (aj (check_slot tc_kind tc_split typ (tc_args _ _ _) ?_));unfold Builtin.«type.__call__»;have hm:Looks (model prog w) h (mroOf (.ref C)) cd.mro:=((Looks.ld (part:=none) hC).andThen .now).andThen .now;show ay _ _ _ _ _ (mroOf (.ref C) >>= _);refine af (aj (hm.at ?_));simp only [e4,Bool.false_eq_true,if_false];refine af (aj (made.at ?_));dsimp only;refine af (ax ?_);refine af (aK (aj (wpAny_call (new_K Y' hi iZ ?_))));dsimp only;have k:∀b o,h.get? b=some o->((h.push emptyDict).push (instObj C h.objs.size)).get? b=some o:=fun b o e=>gS _ (gS _ e);have hx:((h.push emptyDict).push (instObj C h.objs.size)).get? (h.objs.size+1)=some (instObj C h.objs.size):=by heap_get
 have t1:Looks (model prog w) ((h.push emptyDict).push (instObj C h.objs.size)) (typeOf (.ref (h.objs.size+1))) (.ref C):=(Looks.ld hx).andThen .now;have s1:=self.keeps k;have i1:=hi.keeps k;have b1:=(hb (.ref (h.objs.size+1))).keeps k;have inst:Looks (model prog w) ((h.push emptyDict).push (instObj C h.objs.size)) (isInstance (.ref (h.objs.size+1)) (.ref C)) true:=t1.andThen s1;have spec:Looks (model prog w) ((h.push emptyDict).push (instObj C h.objs.size)) (specialOf (.ref (h.objs.size+1)) "__init__") (some init):=t1.andThen i1;refine af (aj (inst.at ?_));simp only [Bool.not_true,Bool.false_eq_true,if_false];unfold callSpecial?;refine af (aK (af (aj (spec.at ?_))));dsimp only;refine aK (af (aj (b1.at ?_)));dsimp only;refine af (iH (gB hq fun r s' z=> ?_));rcases r with e|(v|_|_|_) <;> first|exact z|exact z.elim|skip
 obtain⟨rfl,z⟩:=z;exact ax (ax z)
end
end
section
variable {n:Nat}{f:Value}{c:List MV->MM MV}{prog:Program}{w:World}{g:Heap}{A:Around}{s:Shared}{ρ:Nat->Addr}{m:MH}{b:MV}{kd:Str->Option NameKind}{fd:FuncData}{body:List Stmt}
def j5(prog:Program)(w:World)(g:Heap)(A:Around)(c:Code)(r:Option (MV×MH))(s:Shared)(ρ:Nat->Addr)(m:MH):Prop:=match r with
 |none=>True
 |some (b,m')=>cQ (model prog w) A c (fun r s'=>∃v,r= .ok (.ret v)/\lu prog w g fk a_ s ρ m b m' v s') s
def aP(n:Nat)(f:Value)(c:List MV->MM MV):Prop:=
 ∀prog w A g s ρ m xs vs,dj n A->OK prog w g s ρ m->bI ρ m.n s.heap xs vs->j5 prog w g A (.call f ⟨vs, []⟩) (c xs m) s ρ m
def dW(n:Nat)(f:Value)(c:List MV->MM MV):Prop:=
 ∀prog w A g s ρ m xs vs,dj n A->OK prog w g s ρ m->bI ρ m.n s.heap xs vs->Comes a_ s ρ m prog w g A (c xs m) (PySem.call f vs)
theorem dW.less{k:Nat}(h:dW n f c)(hk:n<=k):dW k f c:=fun prog w A g s ρ m xs vs hA=>h prog w A g s ρ m xs vs (hA.less hk)
theorem j5.at{m':MH}{c:Code}{r:Option (MV×MH)}(h:j5 prog w g A c r s ρ m)(e:r=some (b,m')):
  cQ (model prog w) A c (fun r s'=>∃v,r= .ok (.ret v)/\lu prog w g fk a_ s ρ m b m' v s') s:=by rw [e] at h;exact h
theorem aP.fn(h:aP n f c):dW n f c:=fun prog w A g s ρ m xs vs hA S r=> .of fun b m' e=>
 iH (gB ((h prog w A g s ρ m xs vs hA S r).at e) fun r s' ⟨v,e,q⟩=>by subst e;exact q)
section
variable {prog:Program}{w:World}{g:Heap}{A:Around}{s s':Shared}{ρ ρ':Nat->Addr}{m m':MH}
theorem dW.call{xs:List MV}{vs:List Value}{K:Value->Shared->Prop}(h:dW n f c)(hA:dj n A)(S:OK prog w g s ρ m)(r:bI ρ m.n s.heap xs vs)(e:c xs m=some (b,m'))
  (k:∀v s' ρ',OK prog w g s' ρ' m'->dh fk s ρ m s' ρ' m'->a_ ρ' m'.n s'.heap b v->K v s'):ay s cX A (model prog w) K (PySem.call f vs):=
 (h _ _ A _ _ _ _ _ _ hA S r).step e k
end
theorem xe:∀ {ps:List Str} {us:List Value} {mp:Str->Option Value} {x:Str},x∉ps->bindL kd (ps.zip us) mp x=mp x
 | [],_,_,_,_=>rfl
 |_::_, [],_,_,_=>rfl
 |p::ps,u::us,mp,x,h=>by
  simp only [List.mem_cons,not_or] at h;show bindL kd (ps.zip us) _ x=_;rw [xe h.2]
  split
  ·exact if_neg h.1
  ·rfl
theorem ug:∀ {ps:List Str} {us:List Value} {mp:Str->Option Value} {i:Nat} {x:Str} {u:Value},ps.Nodup->ps[i]? =some x->us[i]? =some u->kd x=some .local->bindL kd (ps.zip us) mp x=some u
 | [],_,_,_,_,_,_,h,_,_=>by simp at h
 |_::_, [],_,_,_,_,_,_,h,_=>by simp at h
 |p::ps,u'::us,mp,0,x,u,nd,h,h',hk=>by
  simp only [List.getElem?_cons_zero,Option.some.injEq] at h h';subst h h';show bindL kd (ps.zip us) _ p=_;rw [xe (List.nodup_cons.mp nd).1,if_pos hk,if_pos rfl]
 |p::ps,u'::us,mp,i+1,x,u,nd,h,h',hk=>by
  simp only [List.getElem?_cons_succ] at h h';show bindL kd (ps.zip us) _ x=_;exact ug (List.nodup_cons.mp nd).2 h h' hk
theorem xf:∀ {ps:List Str} {us:List Value} {mp:Str->Option Value} {x:Str},x∉ps->bindC kd (ps.zip us) mp x=mp x
 | [],_,_,_,_=>rfl
 |_::_, [],_,_,_=>rfl
 |p::ps,u::us,mp,x,h=>by
  simp only [List.mem_cons,not_or] at h;show bindC kd (ps.zip us) _ x=_;rw [xf h.2]
  split
  ·rfl
  ·exact if_neg h.1
theorem uh:∀ {ps:List Str} {us:List Value} {mp:Str->Option Value} {i:Nat} {x:Str} {u:Value},ps.Nodup->ps[i]? =some x->us[i]? =some u->kd x≠some .local->bindC kd (ps.zip us) mp x=some u
 | [],_,_,_,_,_,_,h,_,_=>by simp at h
 |_::_, [],_,_,_,_,_,_,h,_=>by simp at h
 |p::ps,u'::us,mp,0,x,u,nd,h,h',hk=>by
  simp only [List.getElem?_cons_zero,Option.some.injEq] at h h';subst h h';show bindC kd (ps.zip us) _ p=_;rw [xf (List.nodup_cons.mp nd).1,if_neg hk,if_pos rfl]
 |p::ps,u'::us,mp,i+1,x,u,nd,h,h',hk=>by
  simp only [List.getElem?_cons_succ] at h h';show bindC kd (ps.zip us) _ x=_;exact uh (List.nodup_cons.mp nd).2 h h' hk
theorem cellsFrom_some{y:Str}:∀ {names:List (Str×NameKind)} {n:Nat} {acc:List (Str×Addr)},((y,NameKind.cell)∈names\/(acc.lookup y).isSome=true)->((cellsFrom n names acc).lookup y).isSome=true
 | [],n,acc,h=>by
  rcases h with h|h
  ·simp at h
  ·exact h
 |(x,k)::r,n,acc,h=>by
  unfold cellsFrom
  split
  ·rename_i hk;refine cellsFrom_some ?_;rcases h with h|h
   ·rcases List.mem_cons.mp h with q|q
    ·cases q;right;simp [List.lookup_cons]
    ·exact .inl q
   ·right
    rw [List.lookup_cons]
    split
    ·rfl
    ·exact h
  ·rename_i hk;refine cellsFrom_some ?_;rcases h with h|h
   ·rcases List.mem_cons.mp h with q|q
    ·cases q;exact absurd rfl hk
    ·exact .inl q
   ·exact .inr h
theorem rO{α:Type}:∀ {l:List (Str×α)},l.Pairwise (fun x y=>x.2≠y.2)->∀ {x y:Str} {a:α},(x,a)∈l->(y,a)∈l->x=y
 | [],_,_,_,_,h,_=>by simp at h
 |p::l,hp,x,y,a,h1,h2=>by
  rw [List.pairwise_cons] at hp;rcases List.mem_cons.mp h1 with q1|q1 <;> rcases List.mem_cons.mp h2 with q2|q2
  ·rw [<- q1] at q2;cases q2;rfl
  ·exact absurd (by rw [<- q1]) (hp.1 _ q2)
  ·exact absurd (by rw [<- q2]) (hp.1 _ q1)
  ·exact rO hp.2 q1 q2
noncomputable def BO(sg:Sg)(sc:Scope):Bool:=
 sc.kind== .function&&(!sc.isCoroutine&&(!sc.isGenerator&&(sg.ks.all (fun x=>sg.nm.lookup x==some .local||sg.nm.lookup x==some .cell)&&(sg.gs.all (fun x=>sg.nm.lookup x==some .globalImplicit)&&
  (decide sg.ks.Nodup&&(sg.ks.all (fun x=> !(x==("__debug__":Str)))&&sg.gs.all (fun x=> !(x==("__debug__":Str)))))))))
noncomputable def endOf:Option (eG×av×MH)->Option (MV×MH)
 |some (.ret v,_,m)=>some (v,m)
 |some (.next,_,m)=>some (.none,m)
 |_=>none
noncomputable def dc(k:Nat)(dv:List MV)(r:Nat)(c:SM):List MV->MM MV:=fun xs m=>if xs.length<=k/\k<=xs.length+dv.length then endOf (c ((xs++dv.drop (xs.length+dv.length-k)).map some++List.replicate r none) m) else none
theorem j5.endOf{c:Code}{r:Option (eG×av×MH)}
  (key:∀ {b m' fl fD},r=some (fl,fD,m')->(fl= .ret b\/(fl= .next/\b= .none))->cQ (model prog w) A c (fun r s'=>∃v,r= .ok (.ret v)/\lu prog w g fk a_ s ρ m b m' v s') s):j5 prog w g A c (Mine.endOf r) s ρ m:=by
 cases r with
 |none=>exact True.intro
 |some x=>
  obtain⟨fl,fD,m'⟩:=x;cases fl with
  |ret b=>exact key rfl (.inl rfl)
  |next=>exact key rfl (.inr ⟨rfl,rfl⟩)
  |_=>exact True.intro
theorem xg{f:Addr}{o:Obj}{c:SM}{ps rest gs:List Str}{ys:List MV}{us:List Value}{args:Args}
  (ho:s.heap.get? f=some o)(hd:o.data= .func fd)(hb:fd.body= .stmts body)(qh:s.heap.CodeRec fd.code fd.qualname)(zg:fd.globals=mainGlobals)(zh:fd.builtins=builtinsNs)(uV:fd.closure= [])
  (qk:BindsTo s fd args (ps.zip us))(u_:BO ⟨ps++rest,gs,fd.scope.names⟩ fd.scope=true)(hl:ps.length=us.length)(hS:qR n ⟨ps++rest,gs,fd.scope.names⟩ body c)
  (hA:dj (n+1) A)(S:OK prog w g s ρ m)(r:bI ρ m.n s.heap ys us){b:MV}{m':MH}{fl:eG}{fD:av}(e:c (ys.map some++List.replicate rest.length none) m=some (fl,fD,m'))(rP:fl= .ret b\/(fl= .next/\b= .none)):
  cQ (model prog w) A (.call (.ref f) args) (fun r s'=>∃v,r= .ok (.ret v)/\lu prog w g fk a_ s ρ m b m' v s') s:=by
 simp only [BO,Bool.and_eq_true,beq_iff_eq,List.all_eq_true,Bool.not_eq_true',decide_eq_true_eq,Bool.or_eq_true] at u_;obtain⟨hk,Hi,yT,zi,Mz,HG,Mt,Mu⟩:=u_;have rL:∀ {x:Str} {n:Nat},fd.scope.names.lookup x=some .cell->((cellsFrom n fd.scope.names []).lookup x).isSome=true:=fun h=>cellsFrom_some (.inl (lookup_mem h));have Uq:∀x∈ps,fd.scope.names.lookup x=some .local\/fd.scope.names.lookup x=some .cell:=fun x hx=>zi x (List.mem_append_left _ hx);refine oM (by have:=hA.1;exact Wr this) ho hd S.now.nolimit qh hb qk uV (fun x hx=> ?_) (fun s₁ C=> ?_) Hi yT hk
 ·rcases Uq x.1 (List.of_mem_zip hx).1 with h|h
  ·exact .inl h
  ·exact .inr ⟨h,rL h⟩
 generalize qS:callEnvC fd s.heap.objs.size f=env at C ⊢;have zj:env.scope=fd.scope:=by rw [<- qS];rfl
 have fY:env.cells=cellsFrom (s.heap.objs.size+1) fd.scope.names []:=by rw [<- qS];rfl
 have hL:env.locals=s.heap.objs.size:=by rw [<- qS];rfl
 have kM:∀x,env.kindOf x=fd.scope.names.lookup x:=fun x=>by unfold Env.kindOf;rw [zj]
 obtain⟨h₁,tk,rQ⟩:=C.toInCall.same;have wc:=C.toInCall.keep;have S1:OK prog w g s₁ ρ m:=S.grow wc;have V1:dh fk s ρ m s₁ ρ m:= .grow wc (by rw [rQ]) (by rw [rQ]);have nQ:∀a,Own env a->s.heap.get? a=none:=fun a ha=>by
  rcases ha with rfl|⟨x,hx⟩
  ·rw [hL];exact cA _
  ·have:=C.above x a (lookup_mem hx);rw [hL] at this;cases q:s.heap.get? a with
   |none=>rfl
   |some o=>exact absurd (Heap.lt_size q) (Nat.not_lt.mpr (Nat.le_of_lt this))
 have E8:ps.Nodup:=(List.nodup_append.mp HG).1;have E_:∀ {i:Nat} {x:Str},(ps++rest)[i]? =some x->(∃y u,ps[i]? =some x/\ys[i]? =some y/\us[i]? =some u/\a_ ρ m.n s₁.heap y u/\slot (ys.map some++List.replicate rest.length none) i=some y)\/slot (ys.map some++List.replicate rest.length none) i=none:=fun {i x} hi=>by
  have ke:ys.length=us.length:=r.length
  by_cases h:i<ps.length
  ·left
   rw [List.getElem?_append_left h] at hi;have hy:i<ys.length:=by exact Ws hl ke h
   obtain⟨u,hu,ru⟩:=r.get (iP hy);refine⟨ys[i],u,hi,iP hy,hu,ru.mono V1.mono, ?_⟩;unfold slot;rw [List.getElem?_append_left (by simpa using hy),List.getElem?_map,List.getElem?_eq_getElem hy];rfl
  ·right
   unfold slot;rw [List.getElem?_append_right (by rw [eW];exact Wt hl ke h),List.getElem?_replicate]
   split
   ·rename_i q;split at q <;> first|(cases q;rfl)|cases q
   ·rfl
 have F1:dw ⟨ps++rest,gs,fd.scope.names⟩ env (ys.map some++List.replicate rest.length none) g s₁ ρ m.n:=by
  refine⟨⟨by rw [zj];exact hk,by rw [zj],by rw [<- qS];exact zg,by rw [<- qS];exact zh,zi,Mz,HG,Mt,Mu⟩,⟨_,C.toInCall.ns,fun i x hi C5=> ?_⟩,fun i x hi C5=> ?_,fun a ha=> ?_,fun x y a hx hy=> ?_⟩
  ·rcases E_ hi with⟨y,u,q1,q2,q3,q4,q5⟩|q
   ·rw [q5];exact⟨u,ug E8 q1 q3 ((kM x).trans C5),q4⟩
   ·rw [q];trivial
  ·obtain⟨a,ha⟩:=Option.isSome_iff_exists.mp (rL (n:=s.heap.objs.size+1) C5);rw [<- fY] at ha;refine⟨a,_,ha,C.cell x a ha, ?_⟩;rcases E_ hi with⟨y,u,q1,q2,q3,q4,q5⟩|q
   ·rw [q5];refine⟨u,uh E8 q1 q3 ?_,q4⟩;rw [kM x];rw [show fd.scope.names.lookup x=some .cell from C5]
    decide
   ·rw [q];trivial
  ·have h0:=nQ a ha;refine⟨S.pg h0,S.lC h0, ?_⟩;rcases ha with rfl|⟨x,hx⟩
   ·obtain⟨o,es,ep,q,_⟩:=C.toInCall.ns;exact⟨o,q⟩
   ·obtain⟨o,q,_⟩:=C.cell x a hx;exact⟨o,q⟩
  ·exact rO C.apart (lookup_mem hx) (lookup_mem hy)
 refine fa (au ((hS _ _ (A.deeper env) _ _ _ _ _ _ hA.deeper S1 F1).at e) (fun f' s2 q=> ?_) fun ψ ψ x=>x);obtain⟨ρ2,S2,V2,r2,F2⟩:=q;have V:dh fk s ρ m s2 ρ2 m':=V1.trans V2 fun x o e q=>by rw [nQ x q] at e;cases e
 rcases rP with rfl|⟨rfl,rfl⟩
 ·cases r2 with
  |ret rv=>exact⟨_,rfl,ρ2,S2,V,rv⟩
 ·obtain rfl:=r2.Mj;exact⟨_,rfl,ρ2,S2,V,.none⟩
theorem aI{f:Addr}{oc:Value}{od:Option Addr}{v_:Array (Option Value)}{c:SM}(ps rest gs:List Str)(dv:List MV)(ui:List Value)
  (hf:∀w,(KK w).lookup f=some ⟨oc,od,.func fd,v_⟩)(hb:fd.body= .stmts body)(qh:∀w,codeIn (KK w) fd.code fd.qualname=true)(zg:fd.globals=mainGlobals)(zh:fd.builtins=builtinsNs)(uV:fd.closure= [])
  (hdv:∀w ρ n h,(KK w).In h->bI ρ n h dv ui)
  (qk:∀w (s:Shared) us,(KK w).In s.heap->us.length<=ps.length->ps.length<=us.length+ui.length->BindsTo s fd ⟨us, []⟩ (ps.zip (us++ui.drop (us.length+ui.length-ps.length))))
  (u_:BO ⟨ps++rest,gs,fd.scope.names⟩ fd.scope=true)(hS:qR n ⟨ps++rest,gs,fd.scope.names⟩ body c):aP (n+1) (.ref f) (dc ps.length dv rest.length c):=by
 intro prog w A g s ρ m xs vs hA S r;show j5 prog w g A _ (if _ then _ else none) s ρ m
 split
 case isFalse=>exact True.intro
 rename_i hl;have C6:dv.length=ui.length:=(hdv w ρ m.n s.heap S.now.X).length;have hxl:=r.length;have hd:=hdv w ρ m.n s.heap S.now.X;have hr:=r.append (hd.drop (xs.length+dv.length-ps.length));rw [hxl,C6] at hr hl ⊢;have hlen:ps.length=(vs++ui.drop (vs.length+ui.length-ps.length)).length:=by rw [ip,oH];exact WT hl
 exact j5.endOf fun e rP=>xg (S.now.X _ _ (hf w)) rfl hb (codeRec_of S.now.X (qh w)) zg zh uV (qk w s vs S.now.X hl.1 hl.2) u_ hlen hS hA S hr e rP
end
section
variable {M:Model}{f:Value}{pos:Pos}{args es:List Expr}{A:Around}{s:Shared}{prog:Program}{w:World}{g:Heap}{ρ:Nat->Addr}{m m':MH}{ca:av->MM (List MV)}{k:Str}{cands:List (Addr×(List MV->MM MV))}{F:List MV->MM MV}{C:Addr}{n:Nat}
def cE(f:Value):Prop:=∀prog w h,(KK w).In h->∃k,(k=Keeper.frame\/k=Keeper.machine\/k=Keeper.boundFrame)/\Looks (model prog w) h (keeperOf f) k
theorem Fb{h:Heap}(hf:f.onHeap=false):Looks M h (keeperOf f) .machine:=by
 refine Looks.of_pure ?_;cases f <;> first|rfl|cases hf
theorem aG(hf:f.onHeap=false):cE f:=fun prog w h ψ=>⟨.machine,.inr (.inl rfl),Fb hf⟩
theorem BP{a:Addr}(h:∀w,keepIn (KK w) (.ref a)=true):cE (.ref a):=fun prog w hp X=>keeps_K (h w) hp X
def Plain(es:List Expr):Prop:=∀env,starEach es env=es.map fun e=>(false,eval e env)
section
variable {n:Nat}{sg:Sg}
theorem A0{l:List (Sem Value)}:backTo pos (l.map fun t=>(false,t))=l.map fun t=>(false,t):=by
 unfold backTo;rw [List.map_map]
 rfl
theorem Plain.back(h:Plain es)(pos:Pos)(env:Env):backTo pos (starEach es env)=es.map fun e=>(false,eval e env):=by
 rw [h env];have:=A0 (pos:=pos) (l:=es.map fun e=>eval e env);rw [List.map_map] at this;exact this
theorem kf{E:Value->Shared->Prop}{Q:Args->Shared->Prop}(h:ay s E A M (fun vs s'=>Q ⟨vs, []⟩ s') (spliced [])):ay s E A M Q (evalArgs f true [] []):=by
 refine af (au h (fun vs s' h'=> ?_) fun ψ ψ x=>x);refine aK ?_;exact af (ax (af (ax (ax h'))))
theorem wd{env:Env}{fr:av}{xs:List MV}{first:List Value}{K:Value->Shared->Prop}
  (ha:nN n sg es ca)(hp:Plain es)(hk:cE f)(hA:dj n A)(S:OK prog w g s ρ m)(F:dw sg env fr g s ρ m.n)(e:ca fr m=some (xs,m'))
  (k:∀vs s' ρ',OK prog w g s' ρ' m'->dh fk s ρ m s' ρ' m'->bI ρ' m'.n s'.heap xs vs->ay s' cX A (model prog w) K (call f (first++vs))):
  ay s cX A (model prog w) K (callWith pos f first (backTo pos (starEach es env)) []):=by
 refine lN (P:=fun h=>(KK w).In h) ?_ (fun h X=>hk prog w h X) ?_
 ·rw [hp.back pos env];simp
 ·have h1:=(ha _ _ A _ _ _ _ _ _ pos hA S F).step e (K:=fun vs s'=>(KK w).In s'.heap/\ay s' cX A (model prog w) K (call f (first++vs))) fun vs s' ρ' S' V' r=>⟨S'.now.X,k vs s' ρ' S' V' r⟩;rw [hp.back pos env] at h1 ⊢;cases es with
  |nil=>exact kf h1
  |cons x es=>exact jE h1
theorem qu{k:Nat}{id:Str}{p:Pos}{cf:List MV->MM MV}(qp:id∈sg.gs)(hv:bF id (.fn f))(hk:cE f)(ha:nN n sg args ca)(hp:Plain args)(hf:dW k f cf)(HP:k<=n):
  cD n sg (.Call (.Name id p) args [] pos) (oC ca cf):=by
 intro prog w A g env fr s ρ m hA S F;refine .bind fun xs m1 e1=> .of fun b m' e2=> ?_;refine iC ((bA (p:=p) qp hv _ _ A _ _ _ _ _ _ hA S F).step (m':=m) rfl fun a s1 ρ1 S1 V1 r1=> ?_);obtain rfl:=r1.rj rfl;refine wd ha hp hk hA S1 (F.dP V1) e1 fun vs s2 ρ2 S2 V2 r2=> ?_;exact(hf.less HP).call hA S2 r2 e2 fun v s3 ρ3 S3 V3 r3=>⟨ρ3,S3,(V1.comp V2).comp V3,r3⟩
noncomputable def qv(k:Str)(cands:List (Addr×(List MV->MM MV)))(x:MV):MM (List MV->MM MV):=fun m=>x.ig.bind fun i=>(m.ob i).inst?.bind fun C=>(m.ob (i+1)).EN.bind fun fs=>if lx k fs=none then(cands.lookup C).bind fun F=>some (F,m) else none
theorem Fc{x:MV}(e:qv k cands x m=some (F,m')):∃i C fs,x.ig=some i/\m.ob i= .inst C/\m.ob (i+1)= .dO fs/\lx k fs=none/\cands.lookup C=some F/\m'=m:=by
 obtain⟨i,h0,e⟩:=bj e;obtain⟨C,h1,e⟩:=bj e;obtain⟨fs,h2,e⟩:=bj e
 by_cases h3:lx k fs=none
 ·rw [if_pos h3] at e;obtain⟨G,h4,e⟩:=bj e;have e:=Prod.mk.inj (dZ e);exact⟨i,C,fs,h0,MO.instI h1,MO.L9 h2,h3,e.1▸h4,e.2.symm⟩
 ·rw [if_neg h3] at e;exact cj e
noncomputable def we(n:Nat)(k:Str)(cands:List (Addr×(List MV->MM MV))):Prop:=∀C F,cands.lookup C=some F->∃f,fS C k f/\cE (.ref f)/\dW n (.ref f) F
theorem we.nil:we n k []:=fun C F e=>by simp at e
theorem we.cons{l:List (Addr×(List MV->MM MV))}{f:Addr}{j:Nat}(hm:fS C k f)(hk:cE (.ref f))(hf:dW j (.ref f) F)(hj:j<=n)(h:we n k l):we n k ((C,F)::l):=fun C' F' e=>by
 rw [List.lookup_cons] at e;cases q:C'==C with
 |true=>
  rw [q] at e;cases e;have:=eq_of_beq q;subst this;exact⟨f,hm,hk,hf.less hj⟩
 |false=>rw [q] at e;exact h C' F' e
noncomputable def MA(k:Str)(cands:List (Addr×(List MV->MM MV)))(co:av->MM MV)(ca:av->MM (List MV)):av->MM MV:=fun fr=>MM.bind (co fr) fun x=>MM.bind (qv k cands x) fun F=>MM.bind (ca fr) fun xs=>F (x::xs)
theorem aL{o:Expr}{apos:Pos}{co:av->MM MV}(ho:cD n sg o co)(ha:nN n sg args ca)(hp:Plain args)(hc:we n k cands)
  (he:∀env,∃pl,eval (.Call (.Attribute o k apos) args [] pos) env=(do
   let ov <- eval o env
   standAt apos.atName
   let(f,first) <- holding [ov] (getMethod ov k pl)
   callWith pos f first (backTo pos (starEach args env)) (backToKw pos (keywordEach [] env)))):
  cD n sg (.Call (.Attribute o k apos) args [] pos) (MA k cands co ca):=by
 intro prog w A g env fr s ρ m hA S F;refine .bind fun x m1 e1=> .bind fun Fn m2 e2=> .bind fun xs m3 e3=> .of fun b m' e=> ?_;obtain⟨pl,he⟩:=he env;refine mv ((ho _ _ A _ _ _ _ _ _ hA S F).step e1 fun a s1 ρ1 S1 V1 r1=> ?_) he;obtain⟨i,C,fs,h0,h1,h2,h3,h4,rfl⟩:=Fc e2;obtain⟨f,hm,CC,hf⟩:=hc C Fn h4;have r0:=r1;obtain⟨hi,rfl⟩:=r1.ij h0
 ·obtain⟨hl,es,ep,hob,R,I⟩:=S1.inst hi h1 h2;have EP:=hm w;simp only [Hu,Bool.and_eq_true,beq_iff_eq] at EP;obtain⟨⟨q1,q2⟩,q3⟩:=EP;refine aj (method_fn S1.now.X I (plainGet_of q1).1 (plainGet_of q1).2 q2 q3 (by show(lookIn k (dictOf es ep)).map _=_;rw [lookIn_dict,R.Mf h3];rfl) ?_);refine wd (first:= [.ref (ρ1 i)]) ha hp CC hA S1 (F.dP V1) e3 fun vs s2 ρ2 S2 V2 r2=> ?_;exact hf.call hA S2 (.cons (r0.mono V2.mono) r2) e fun v s3 ρ3 S3 V3 r3=>⟨ρ3,S3,(V1.comp V2).comp V3,r3⟩
end
def mZ(C f:Addr):Prop:=∀w,makesIn (KK w) C=true/\findIn (KK w) (.ref C) "__init__"=some (some (.ref f))/\typeIn (KK w) (.ref f)=some (.type "function")
theorem xO(A:Around)(C:Addr)(vals:List Value)(kw:List (Str×Value)):(A.under (.builtin "type.__call__" ⟨.ref C::vals,kw⟩)).units=A.units+1:=rfl
theorem dj.under{vals:List Value}{kw:List (Str×Value)}(h:dj (n+1) A):dj n (A.under (.builtin "type.__call__" ⟨.ref C::vals,kw⟩)):=by
 obtain⟨h1,h2,h3⟩:=h;refine⟨?_, ?_,h3⟩
 ·rw [depth_under_kw];exact Rb h1
 ·rw [xO];exact Xg h2
noncomputable def Jo(C:Addr)(ci:List MV->MM MV):List MV->MM MV:=fun xs m=>
 (ci (.obj m.n::xs) ((m.new (.inst C)).new (.dO []))).bind fun x=>match x.1 with
 | .none=>some (.obj m.n,x.2)
 |_=>none
theorem Fd(S:OK prog w g s ρ m):
  OK prog w g {s with heap:=(s.heap.push emptyDict).push (instObj C s.heap.objs.size)} (eP (eP ρ m.n (s.heap.objs.size+1)) (m.n+1) s.heap.objs.size) ((m.new (.inst C)).new (.dO []))/\
  dh fk s ρ m {s with heap:=(s.heap.push emptyDict).push (instObj C s.heap.objs.size)} (eP (eP ρ m.n (s.heap.objs.size+1)) (m.n+1) s.heap.objs.size) ((m.new (.inst C)).new (.dO [])):=by
 have h0:=cA s.heap;have h1:s.heap.get? (s.heap.objs.size+1)=none:=by
  cases q:s.heap.get? (s.heap.objs.size+1) with
  |none=>rfl
  |some o=>exact absurd (Heap.lt_size q) (Nat.not_lt.mpr (Nat.le_succ _))
 have k:Sub s.heap ((s.heap.push emptyDict).push (instObj C s.heap.objs.size)):=fun a o e=>gS _ (gS _ e);have S1:OK prog w g {s with heap:=(s.heap.push emptyDict).push (instObj C s.heap.objs.size)} ρ m:=S.grow k;have V1:dh fk s ρ m {s with heap:=(s.heap.push emptyDict).push (instObj C s.heap.objs.size)} ρ m:= .grow k rfl rfl;have hd:((s.heap.push emptyDict).push (instObj C s.heap.objs.size)).get? s.heap.objs.size=some emptyDict:=gS _ (iQ _ rfl);have hi:((s.heap.push emptyDict).push (instObj C s.heap.objs.size)).get? (s.heap.objs.size+1)=some (instObj C s.heap.objs.size):=by
  have:=iQ (s.heap.push emptyDict) (o:=instObj C s.heap.objs.size) rfl
  rwa [Heap.size_push] at this
 have hρ:∀i,i<m.n->eP (eP ρ m.n (s.heap.objs.size+1)) (m.n+1) s.heap.objs.size i=ρ i:=fun i hi=>by rw [fC (Nat.lt_succ_of_lt hi),fC hi]
 have HQ:eP (eP ρ m.n (s.heap.objs.size+1)) (m.n+1) s.heap.objs.size m.n=s.heap.objs.size+1:=by rw [fC (gA _),ei]
 have Fe:eP (eP ρ m.n (s.heap.objs.size+1)) (m.n+1) s.heap.objs.size (m.n+1)=s.heap.objs.size:=ei;have V2:dh fk s ρ m {s with heap:=(s.heap.push emptyDict).push (instObj C s.heap.objs.size)} (eP (eP ρ m.n (s.heap.objs.size+1)) (m.n+1) s.heap.objs.size) ((m.new (.inst C)).new (.dO [])):=(V1.v8 h1).v8 h0;have cases3:∀i,i<m.n+1+1->i<m.n\/i=m.n\/i=m.n+1:=fun i hi=>by exact Xh hi
 have n0:=S.lC h0;have n1:=S.lC h1;generalize eP (eP ρ m.n (s.heap.objs.size+1)) (m.n+1) s.heap.objs.size=ρ' at hρ HQ Fe V2 ⊢;refine⟨⟨S1.base,S1.sub,fun i j pk Ff q=> ?_,fun i pk=> ?_,fun i pk=> ?_⟩,V2⟩
 ·rcases cases3 i pk with a|rfl|rfl <;> rcases cases3 j Ff with b|rfl|rfl
  ·rw [hρ i a,hρ j b] at q;exact S.inj i j a b q
  ·rw [hρ i a,HQ] at q;exact absurd q (n1 i a)
  ·rw [hρ i a,Fe] at q;exact absurd q (n0 i a)
  ·rw [hρ j b,HQ] at q;exact absurd q.symm (n1 j b)
  ·rfl
  ·rw [HQ,Fe] at q;exact absurd q (Nat.succ_ne_self _)
  ·rw [hρ j b,Fe] at q;exact absurd q.symm (n0 j b)
  ·rw [HQ,Fe] at q;exact absurd q.symm (Nat.succ_ne_self _)
  ·rfl
 ·rcases cases3 i pk with a|rfl|rfl
  ·rw [hρ i a];exact S.out i a
  ·rw [HQ];exact S.pg h1
  ·rw [Fe];exact S.pg h0
 ·show∃o,((s.heap.push emptyDict).push (instObj C s.heap.objs.size)).get? (ρ' i)=some o/\mR prog w ρ' (m.n+1+1) ((s.heap.push emptyDict).push (instObj C s.heap.objs.size)) i (if i=m.n+1 then .dO [] else if i=m.n then .inst C else m.ob i) o;rcases cases3 i pk with a|rfl|rfl
  ·obtain⟨o,x,y⟩:=S1.ob i a;rw [hρ i a,if_neg (by exact Xi a),if_neg (by exact Xj a)];exact⟨o,x,y.mono ⟨hρ,by show m.n<=m.n+1+1;exact Xk,fun ψ ψ e ψ=>e⟩⟩
  ·rw [HQ,if_neg (by exact Xl),if_pos rfl];exact⟨_,hi,gA _,by rw [Fe]⟩
  ·rw [Fe,if_pos rfl];exact⟨_,hd, [],0,rfl,.nil⟩
theorem md{f:Addr}{ci:List MV->MM MV}(M:mZ C f)(h:aP n (.ref f) ci):aP (n+1) (.ref C) (Jo C ci):=by
 intro prog w A g s ρ m xs vs hA S r;show j5 prog w g A _ (Option.bind _ _) s ρ m;cases e1:ci (.obj m.n::xs) ((m.new (.inst C)).new (.dO [])) with
 |none=>exact True.intro
 |some z=>
 obtain⟨z,m'⟩:=z;cases z <;> try exact True.intro
 obtain⟨PS,PT,PU⟩:=M w;have X:=S.now.X;obtain⟨S2,V2⟩:=Fd (C:=C) S;obtain⟨h0,gg,d,t,os⟩:=s;refine My (makes_of X PS) (looks_findIn X PT) (fun self=>bind_fn X self PU) (.inl rfl) ?_;have uc:a_ (eP (eP ρ m.n (h0.objs.size+1)) (m.n+1) h0.objs.size) (m.n+1+1) ((h0.push emptyDict).push (instObj C h0.objs.size)) (.obj m.n) (.ref (h0.objs.size+1)):=by
  have:=a_.obj (ρ:=eP (eP ρ m.n (h0.objs.size+1)) (m.n+1) h0.objs.size) (n:=m.n+1+1) (h:=(h0.push emptyDict).push (instObj C h0.objs.size)) (i:=m.n) (by exact Rc);rw [fC (gA _),ei] at this;exact this
 refine gB ((h _ _ (A.under (.builtin "type.__call__" ⟨.ref C::vs, []⟩)) _ _ _ _ _ _ hA.under S2 (.cons uc (r.mono V2.mono))).at e1) fun r s' hq=> ?_;obtain⟨v,er,ρ',S',V',q⟩:=hq;subst er;cases q;exact⟨rfl,_,rfl,ρ',S',V2.comp V',uc.mono V'.mono⟩
end
section
variable {p:Addr×List Str×Addr}{k:Str}{P:Addr->Prop}
noncomputable abbrev HR:List (Str×Addr):= [(("Corrupt":Str),51),(("Misused":Str),63),(("Unopened":Str),75),(("number_of":Str),82),(("octets_of":Str),87),(("text_octets":Str),92),(("octets_text":Str),97),(("Sink":Str),142),(("Cursor":Str),192),(("padded":Str),203),(("Node":Str),227),(("Config":Str),254),(("sorts":Str),265),(("number_of_disks":Str),272),(("disk_node":Str),279),(("node_of":Str),284),(("disks_of":Str),291),(("config_of_plans":Str),297),(("all_disks":Str),304),(("put_node":Str),311),(("config_octets":Str),318),(("read_node":Str),323),(("config_of":Str),328),(("Shape":Str),346),(("many_of":Str),357),(("slot_sectors":Str),364),(("config_sectors":Str),371),(("label_sectors":Str),378),(("label_begins":Str),385),(("part_sum":Str),390),(("config_part":Str),397),(("config_in":Str),404),(("put_config":Str),411),(("read_config":Str),418),(("label_octets":Str),425),(("write_labels":Str),432),(("Disk":Str),526),(("found_disks":Str),535),(("_law_cell":Str),542),(("_law_plans":Str),547),(("_law_configs":Str),554),(("_law_harm":Str),561),(("_law_disk":Str),568),(("_law_told":Str),575),(("law":Str),580)]
noncomputable def Ur(K:Frag)(L:List (Str×Addr)):Bool:=L.all fun p=>nsIn K mainGlobals p.1==some (some (.ref p.2))&&keepIn K (.ref p.2)
theorem Fg(w:World):Ur (KK w) HR=true:=by kernel_rfl!
theorem mi{α:Type}{l:List α}{x:α}(i:Nat)(h:l[i]? =some x):x∈l:=jB h
theorem cI{p:Str×Addr}(h:p∈HR):bF p.1 (.fn (.ref p.2)):=fun w=>⟨.ref p.2,.inl (by
 have a:=List.all_eq_true.mp (Fg w) p h;exact eq_of_beq (Bool.and_eq_true_iff.mp a).1),fun ψ ψ ψ=> .fn _⟩
theorem cF{p:Str×Addr}(h:p∈HR):cE (.ref p.2):=BP fun w=>by
 have a:=List.all_eq_true.mp (Fg w) p h;exact(Bool.and_eq_true_iff.mp a).2
theorem C7:cE (.ref 75):=cF (p:=("Unopened",75)) (mi 2 rfl)
theorem jO:bF "number_of" (.fn (.ref 82)):=cI (p:=("number_of",82)) (mi 3 rfl)
theorem jP:cE (.ref 82):=cF (p:=("number_of",82)) (mi 3 rfl)
theorem jQ:bF "octets_of" (.fn (.ref 87)):=cI (p:=("octets_of",87)) (mi 4 rfl)
theorem jR:cE (.ref 87):=cF (p:=("octets_of",87)) (mi 4 rfl)
theorem xP:bF "text_octets" (.fn (.ref 92)):=cI (p:=("text_octets",92)) (mi 5 rfl)
theorem xQ:cE (.ref 92):=cF (p:=("text_octets",92)) (mi 5 rfl)
theorem xR:bF "octets_text" (.fn (.ref 97)):=cI (p:=("octets_text",97)) (mi 6 rfl)
theorem xS:cE (.ref 97):=cF (p:=("octets_text",97)) (mi 6 rfl)
theorem MB:bF "Sink" (.fn (.ref 142)):=cI (p:=("Sink",142)) (mi 7 rfl)
theorem MC:cE (.ref 142):=cF (p:=("Sink",142)) (mi 7 rfl)
theorem HS:bF "Cursor" (.fn (.ref 192)):=cI (p:=("Cursor",192)) (mi 8 rfl)
theorem HT:cE (.ref 192):=cF (p:=("Cursor",192)) (mi 8 rfl)
theorem HU:bF "padded" (.fn (.ref 203)):=cI (p:=("padded",203)) (mi 9 rfl)
theorem HV:cE (.ref 203):=cF (p:=("padded",203)) (mi 9 rfl)
theorem rR:bF "Node" (.fn (.ref 227)):=cI (p:=("Node",227)) (mi 10 rfl)
theorem rT:cE (.ref 227):=cF (p:=("Node",227)) (mi 10 rfl)
theorem zk:bF "Config" (.fn (.ref 254)):=cI (p:=("Config",254)) (mi 11 rfl)
theorem zl:cE (.ref 254):=cF (p:=("Config",254)) (mi 11 rfl)
theorem iJ:bF "sorts" (.fn (.ref 265)):=cI (p:=("sorts",265)) (mi 12 rfl)
theorem iK:cE (.ref 265):=cF (p:=("sorts",265)) (mi 12 rfl)
theorem tw:bF "number_of_disks" (.fn (.ref 272)):=cI (p:=("number_of_disks",272)) (mi 13 rfl)
theorem tA:cE (.ref 272):=cF (p:=("number_of_disks",272)) (mi 13 rfl)
theorem tP:bF "disk_node" (.fn (.ref 279)):=cI (p:=("disk_node",279)) (mi 14 rfl)
theorem tQ:cE (.ref 279):=cF (p:=("disk_node",279)) (mi 14 rfl)
theorem Fh:bF "node_of" (.fn (.ref 284)):=cI (p:=("node_of",284)) (mi 15 rfl)
theorem Fi:cE (.ref 284):=cF (p:=("node_of",284)) (mi 15 rfl)
theorem kQ:bF "disks_of" (.fn (.ref 291)):=cI (p:=("disks_of",291)) (mi 16 rfl)
theorem kR:cE (.ref 291):=cF (p:=("disks_of",291)) (mi 16 rfl)
theorem jF:bF "config_of_plans" (.fn (.ref 297)):=cI (p:=("config_of_plans",297)) (mi 17 rfl)
theorem jG:cE (.ref 297):=cF (p:=("config_of_plans",297)) (mi 17 rfl)
theorem A1:bF "all_disks" (.fn (.ref 304)):=cI (p:=("all_disks",304)) (mi 18 rfl)
theorem A2:cE (.ref 304):=cF (p:=("all_disks",304)) (mi 18 rfl)
theorem m_:bF "put_node" (.fn (.ref 311)):=cI (p:=("put_node",311)) (mi 19 rfl)
theorem nc:cE (.ref 311):=cF (p:=("put_node",311)) (mi 19 rfl)
theorem oO:bF "config_octets" (.fn (.ref 318)):=cI (p:=("config_octets",318)) (mi 20 rfl)
theorem oP:cE (.ref 318):=cF (p:=("config_octets",318)) (mi 20 rfl)
theorem lQ:bF "read_node" (.fn (.ref 323)):=cI (p:=("read_node",323)) (mi 21 rfl)
theorem lR:cE (.ref 323):=cF (p:=("read_node",323)) (mi 21 rfl)
theorem pq:bF "config_of" (.fn (.ref 328)):=cI (p:=("config_of",328)) (mi 22 rfl)
theorem pv:cE (.ref 328):=cF (p:=("config_of",328)) (mi 22 rfl)
theorem Kr:bF "Shape" (.fn (.ref 346)):=cI (p:=("Shape",346)) (mi 23 rfl)
theorem Ks:cE (.ref 346):=cF (p:=("Shape",346)) (mi 23 rfl)
theorem xh:bF "many_of" (.fn (.ref 357)):=cI (p:=("many_of",357)) (mi 24 rfl)
theorem xi:cE (.ref 357):=cF (p:=("many_of",357)) (mi 24 rfl)
theorem wg:bF "slot_sectors" (.fn (.ref 364)):=cI (p:=("slot_sectors",364)) (mi 25 rfl)
theorem wh:cE (.ref 364):=cF (p:=("slot_sectors",364)) (mi 25 rfl)
theorem kg:bF "config_sectors" (.fn (.ref 371)):=cI (p:=("config_sectors",371)) (mi 26 rfl)
theorem kh:cE (.ref 371):=cF (p:=("config_sectors",371)) (mi 26 rfl)
theorem vb:bF "label_sectors" (.fn (.ref 378)):=cI (p:=("label_sectors",378)) (mi 27 rfl)
theorem vc:cE (.ref 378):=cF (p:=("label_sectors",378)) (mi 27 rfl)
theorem pZ:bF "label_begins" (.fn (.ref 385)):=cI (p:=("label_begins",385)) (mi 28 rfl)
theorem p6:cE (.ref 385):=cF (p:=("label_begins",385)) (mi 28 rfl)
theorem vd:bF "part_sum" (.fn (.ref 390)):=cI (p:=("part_sum",390)) (mi 29 rfl)
theorem ve:cE (.ref 390):=cF (p:=("part_sum",390)) (mi 29 rfl)
theorem xT:bF "config_part" (.fn (.ref 397)):=cI (p:=("config_part",397)) (mi 30 rfl)
theorem xU:cE (.ref 397):=cF (p:=("config_part",397)) (mi 30 rfl)
theorem A3:bF "config_in" (.fn (.ref 404)):=cI (p:=("config_in",404)) (mi 31 rfl)
theorem A4:cE (.ref 404):=cF (p:=("config_in",404)) (mi 31 rfl)
theorem zm:bF "put_config" (.fn (.ref 411)):=cI (p:=("put_config",411)) (mi 32 rfl)
theorem zo:cE (.ref 411):=cF (p:=("put_config",411)) (mi 32 rfl)
theorem mw:bF "read_config" (.fn (.ref 418)):=cI (p:=("read_config",418)) (mi 33 rfl)
theorem mx:cE (.ref 418):=cF (p:=("read_config",418)) (mi 33 rfl)
theorem wi:bF "label_octets" (.fn (.ref 425)):=cI (p:=("label_octets",425)) (mi 34 rfl)
theorem wj:cE (.ref 425):=cF (p:=("label_octets",425)) (mi 34 rfl)
theorem wk:bF "write_labels" (.fn (.ref 432)):=cI (p:=("write_labels",432)) (mi 35 rfl)
theorem wm:cE (.ref 432):=cF (p:=("write_labels",432)) (mi 35 rfl)
theorem MD:bF "Disk" (.fn (.ref 526)):=cI (p:=("Disk",526)) (mi 36 rfl)
theorem ME:cE (.ref 526):=cF (p:=("Disk",526)) (mi 36 rfl)
theorem qT:bF "found_disks" (.fn (.ref 535)):=cI (p:=("found_disks",535)) (mi 37 rfl)
theorem qU:cE (.ref 535):=cF (p:=("found_disks",535)) (mi 37 rfl)
theorem jn:bF "_law_cell" (.fn (.ref 542)):=cI (p:=("_law_cell",542)) (mi 38 rfl)
theorem jq:cE (.ref 542):=cF (p:=("_law_cell",542)) (mi 38 rfl)
theorem pw:bF "_law_plans" (.fn (.ref 547)):=cI (p:=("_law_plans",547)) (mi 39 rfl)
theorem px:cE (.ref 547):=cF (p:=("_law_plans",547)) (mi 39 rfl)
theorem xV:bF "_law_configs" (.fn (.ref 554)):=cI (p:=("_law_configs",554)) (mi 40 rfl)
theorem xW:cE (.ref 554):=cF (p:=("_law_configs",554)) (mi 40 rfl)
theorem vf:bF "_law_harm" (.fn (.ref 561)):=cI (p:=("_law_harm",561)) (mi 41 rfl)
theorem vg:cE (.ref 561):=cF (p:=("_law_harm",561)) (mi 41 rfl)
theorem C8:bF "_law_disk" (.fn (.ref 568)):=cI (p:=("_law_disk",568)) (mi 42 rfl)
theorem C9:cE (.ref 568):=cF (p:=("_law_disk",568)) (mi 42 rfl)
theorem C_:bF "_law_told" (.fn (.ref 575)):=cI (p:=("_law_told",575)) (mi 43 rfl)
theorem Dc:cE (.ref 575):=cF (p:=("_law_told",575)) (mi 43 rfl)
noncomputable abbrev MF:List (Str×Int×Tok):= [(("MAGIC":Str),1953654117,433),(("VERSION":Str),1,435),(("MOST_PARITY":Str),3,437),(("MOST_CHILDREN":Str),32,439),(("NUMBERS":Str),4294967296,443),(("SUM":Str),8,685),(("LENGTH":Str),4,687),(("GUID":Str),4,766)]
noncomputable def Us(K:Frag)(L:List (Str×Int×Tok)):Bool:=L.all fun p=>nsIn K mainGlobals p.1==some (some (.int p.2.1 p.2.2))
theorem MG(w:World):Us (KK w) MF=true:=by kernel_rfl!
theorem oQ{p:Str×Int×Tok}(h:p∈MF):bF p.1 (.int p.2.1):=fun w=>⟨.int p.2.1 p.2.2,.inl (eq_of_beq (List.all_eq_true.mp (MG w) p h)),fun ψ ψ ψ=> .int _ _⟩
theorem BQ:bF "MAGIC" (.int 1953654117):=oQ (p:=("MAGIC",1953654117,433)) (mi 0 rfl)
theorem xj:bF "VERSION" (.int 1):=oQ (p:=("VERSION",1,435)) (mi 1 rfl)
theorem j6:bF "MOST_PARITY" (.int 3):=oQ (p:=("MOST_PARITY",3,437)) (mi 2 rfl)
theorem vh:bF "MOST_CHILDREN" (.int 32):=oQ (p:=("MOST_CHILDREN",32,439)) (mi 3 rfl)
theorem xk:bF "NUMBERS" (.int 4294967296):=oQ (p:=("NUMBERS",4294967296,443)) (mi 4 rfl)
theorem qw:bF "SUM" (.int 8):=oQ (p:=("SUM",8,685)) (mi 5 rfl)
theorem nR:bF "LENGTH" (.int 4):=oQ (p:=("LENGTH",4,687)) (mi 6 rfl)
theorem rU:bF "GUID" (.int 4):=oQ (p:=("GUID",4,766)) (mi 7 rfl)
noncomputable abbrev Sl:List Str:= ["len","sum","all","max","min","sorted","ord","chr","isinstance","enumerate","range","bytes","bytearray","list","tuple","set","dict","int","bool"]
noncomputable def adz(K:Frag)(L:List Str):Bool:=L.all fun p=>nsIn K mainGlobals p==some none
theorem PV(w:World):adz (KK w) Sl=true:=by kernel_rfl!
theorem fT{p:Str}{v:Value}(h:p∈Sl)(hb:bootBuiltins p=some v)(hn:p≠"__name__"):bF p (.fn v):=fun w=>⟨v,.inr ⟨by
 have a:=List.all_eq_true.mp (PV w) p h;exact eq_of_beq a,hb,hn⟩,fun ψ ψ ψ=> .fn _⟩
theorem ew:bF "len" (.fn (.builtin "len")):=fT (mi 0 rfl) PyProof.Rows.Boot.«len» (by decide +kernel)
theorem Dd:bF "sum" (.fn (.builtin "sum")):=fT (mi 1 rfl) PyProof.Rows.Boot.«sum» (by decide +kernel)
theorem De:bF "all" (.fn (.builtin "all")):=fT (mi 2 rfl) PyProof.Rows.Boot.«all» (by decide +kernel)
theorem Df:bF "max" (.fn (.builtin "max")):=fT (mi 3 rfl) PyProof.Rows.Boot.«max» (by decide +kernel)
theorem Dg:bF "min" (.fn (.builtin "min")):=fT (mi 4 rfl) PyProof.Rows.Boot.«min» (by decide +kernel)
theorem uj:bF "sorted" (.fn (.builtin "sorted")):=fT (mi 5 rfl) PyProof.Rows.Boot.«sorted» (by decide +kernel)
theorem PW:bF "ord" (.fn (.builtin "ord")):=fT (mi 6 rfl) PyProof.Rows.Boot.«ord» (by decide +kernel)
theorem PX:bF "chr" (.fn (.builtin "chr")):=fT (mi 7 rfl) PyProof.Rows.Boot.«chr» (by decide +kernel)
theorem hH:bF "isinstance" (.fn (.builtin "isinstance")):=fT (mi 8 rfl) PyProof.Rows.Boot.«isinstance» (by decide +kernel)
theorem tR:bF "enumerate" (.fn (.type "enumerate")):=fT (mi 9 rfl) PyProof.Rows.Boot.«enumerate» (by decide +kernel)
theorem kz:bF "range" (.fn (.type "range")):=fT (mi 10 rfl) PyProof.Rows.Boot.«range» (by decide +kernel)
theorem jr:bF "bytes" (.fn (.type "bytes")):=fT (mi 11 rfl) PyProof.Rows.Boot.«bytes» (by decide +kernel)
theorem tS:bF "bytearray" (.fn (.type "bytearray")):=fT (mi 12 rfl) PyProof.Rows.Boot.«bytearray» (by decide +kernel)
theorem zp:bF "list" (.fn (.type "list")):=fT (mi 13 rfl) PyProof.Rows.Boot.«list» (by decide +kernel)
theorem nu:bF "tuple" (.fn (.type "tuple")):=fT (mi 14 rfl) PyProof.Rows.Boot.«tuple» (by decide +kernel)
theorem PY:bF "set" (.fn (.type "set")):=fT (mi 15 rfl) PyProof.Rows.Boot.«set» (by decide +kernel)
theorem MI:bF "dict" (.fn (.type "dict")):=fT (mi 16 rfl) PyProof.Rows.Boot.«dict» (by decide +kernel)
theorem PZ:bF "int" (.fn (.type "int")):=fT (mi 17 rfl) PyProof.Rows.Boot.«int» (by decide +kernel)
theorem Fj:bF "bool" (.fn (.type "bool")):=fT (mi 18 rfl) PyProof.Rows.Boot.«bool» (by decide +kernel)
noncomputable abbrev yA:List Str:= ["octets"]
noncomputable abbrev nv:List Str:= ["octets","at"]
noncomputable abbrev lS:List Str:= ["sort","guid","children","parity"]
noncomputable abbrev iL:List Str:= ["name","guid","tops","edition"]
noncomputable abbrev fE:List Str:= ["sector","slab","record","fan","dnodes","ring","defer","most_record","uber","config","zap"]
noncomputable abbrev iT:List Str:= ["sector","octets","waiting","is_out","reads","writes"]
noncomputable abbrev Jp:List (Addr×List Str×Addr):= [(142,yA,111),(192,nv,161),(227,lS,219),(254,iL,246),(346,fE,343),(526,iT,446)]
noncomputable def adA(K:Frag)(L:List (Addr×List Str×Addr)):Bool:=L.all fun p=>plainGet K p.1 ""&&hasDictIn K p.1&&findIn K (.ref p.1) "__setattr__"==some (some (.builtin "object.__setattr__"))&&plainOver K p.1&&p.2.1.all (fun k=>findIn K (.ref p.1) k==some none)&&
 makesIn K p.1&&findIn K (.ref p.1) "__init__"==some (some (.ref p.2.2))&&typeIn K (.ref p.2.2)==some (.type "function")
theorem Dh(w:World):adA (KK w) Jp=true:=by kernel_rfl!
theorem tB{a b:Bool}(h:(a&&b)=true):a=true/\b=true:=Bool.and_eq_true_iff.mp h
theorem dM(h:p∈Jp)(hk:k∈p.2.1):fJ p.1 k:=fun w=>
 have b:=tB (tB (tB (tB (List.all_eq_true.mp (Dh w) p h)).1).1).1
 Bool.and_eq_true_iff.mpr ⟨(tB (tB b.1).1).1,by rw [eq_of_beq (List.all_eq_true.mp b.2 k hk)];rfl⟩
theorem de(h:p∈Jp)(hk:k∈p.2.1):fo p.1 k:=fun w=>
 have b:=tB (tB (tB (tB (List.all_eq_true.mp (Dh w) p h)).1).1).1;have c:=tB b.1;have d:=tB c.1
 Bool.and_eq_true_iff.mpr ⟨Bool.and_eq_true_iff.mpr ⟨Bool.and_eq_true_iff.mpr ⟨d.2,c.2⟩,beq_iff_eq.mpr (by delta takerIn;rw [eq_of_beq (List.all_eq_true.mp b.2 k hk)];rfl)⟩,(tB d.1).2⟩
theorem ny(h:p∈Jp):mZ p.1 p.2.2:=fun w=>
 have b:=tB (List.all_eq_true.mp (Dh w) p h);have c:=tB b.1
 ⟨(tB c.1).2,eq_of_beq c.2,eq_of_beq b.2⟩
theorem all_nil:∀C,C∈([]:List Addr)->P C:=fun ψ h=>nomatch h
theorem all_cons{C:Addr}{l:List Addr}(h:P C)(hl:∀C,C∈l->P C):∀D,D∈C::l->P D:=fun D hD=>by
 rcases List.mem_cons.mp hD with rfl|q
 ·exact h
 ·exact hl D q
noncomputable abbrev HW:List (Addr×Str×Addr):= [(142,("number":Str),118),(142,("text":Str),132),(142,("whole":Str),139),(142,("put":Str),125),(192,("left":Str),168),(192,("take":Str),175),(192,("number":Str),182),(192,("text":Str),189),(227,("plain":Str),224),(254,("plain":Str),251),(526,("sectors":Str),453),(526,("want":Str),460),(526,("read":Str),467),(526,("write":Str),474),(526,("put":Str),481),(526,("flush":Str),488),(526,("harm":Str),516)]
noncomputable def P0(K:Frag)(L:List (Addr×Str×Addr)):Bool:=L.all fun p=>Hu K p.1 p.2.1 p.2.2&&keepIn K (.ref p.2.2)
theorem BR(w:World):P0 (KK w) HW=true:=by kernel_rfl!
theorem gY{p:Addr×Str×Addr}(h:p∈HW):fS p.1 p.2.1 p.2.2:=fun w=>by
 have a:=List.all_eq_true.mp (BR w) p h;exact(Bool.and_eq_true_iff.mp a).1
theorem gZ{p:Addr×Str×Addr}(h:p∈HW):cE (.ref p.2.2):=BP fun w=>by
 have a:=List.all_eq_true.mp (BR w) p h;exact(Bool.and_eq_true_iff.mp a).2
theorem MJ:mZ 142 111:=ny (p:=(142,yA,111)) (mi 0 rfl)
theorem HX:mZ 192 161:=ny (p:=(192,nv,161)) (mi 1 rfl)
theorem MK:mZ 227 219:=ny (p:=(227,lS,219)) (mi 2 rfl)
theorem HY:mZ 254 246:=ny (p:=(254,iL,246)) (mi 3 rfl)
theorem Kt:mZ 346 343:=ny (p:=(346,fE,343)) (mi 4 rfl)
theorem ML:mZ 526 446:=ny (p:=(526,iT,446)) (mi 5 rfl)
theorem gL:∀C,C∈([142,192,526]:List Addr)->fJ C "octets":=(all_cons (dM (p:=(142,yA,111)) (mi 0 rfl) (mi 0 rfl)) (all_cons (dM (p:=(192,nv,161)) (mi 1 rfl) (mi 0 rfl)) (all_cons (dM (p:=(526,iT,446)) (mi 5 rfl) (mi 1 rfl)) all_nil)))
theorem uk:∀C,C∈([142,192,526]:List Addr)->fo C "octets":=(all_cons (de (p:=(142,yA,111)) (mi 0 rfl) (mi 0 rfl)) (all_cons (de (p:=(192,nv,161)) (mi 1 rfl) (mi 0 rfl)) (all_cons (de (p:=(526,iT,446)) (mi 5 rfl) (mi 1 rfl)) all_nil)))
theorem Di:∀C,C∈([192]:List Addr)->fJ C "at":=(all_cons (dM (p:=(192,nv,161)) (mi 1 rfl) (mi 1 rfl)) all_nil)
theorem MN:∀C,C∈([192]:List Addr)->fo C "at":=(all_cons (de (p:=(192,nv,161)) (mi 1 rfl) (mi 1 rfl)) all_nil)
theorem kS:∀C,C∈([227]:List Addr)->fJ C "sort":=(all_cons (dM (p:=(227,lS,219)) (mi 2 rfl) (mi 0 rfl)) all_nil)
theorem MP:∀C,C∈([227]:List Addr)->fo C "sort":=(all_cons (de (p:=(227,lS,219)) (mi 2 rfl) (mi 0 rfl)) all_nil)
theorem fF:∀C,C∈([227,254]:List Addr)->fJ C "guid":=(all_cons (dM (p:=(227,lS,219)) (mi 2 rfl) (mi 1 rfl)) (all_cons (dM (p:=(254,iL,246)) (mi 3 rfl) (mi 1 rfl)) all_nil))
theorem Fl:∀C,C∈([227,254]:List Addr)->fo C "guid":=(all_cons (de (p:=(227,lS,219)) (mi 2 rfl) (mi 1 rfl)) (all_cons (de (p:=(254,iL,246)) (mi 3 rfl) (mi 1 rfl)) all_nil))
theorem eK:∀C,C∈([227]:List Addr)->fJ C "children":=(all_cons (dM (p:=(227,lS,219)) (mi 2 rfl) (mi 2 rfl)) all_nil)
theorem Dj:∀C,C∈([227]:List Addr)->fo C "children":=(all_cons (de (p:=(227,lS,219)) (mi 2 rfl) (mi 2 rfl)) all_nil)
theorem lE:∀C,C∈([227]:List Addr)->fJ C "parity":=(all_cons (dM (p:=(227,lS,219)) (mi 2 rfl) (mi 3 rfl)) all_nil)
theorem HZ:∀C,C∈([227]:List Addr)->fo C "parity":=(all_cons (de (p:=(227,lS,219)) (mi 2 rfl) (mi 3 rfl)) all_nil)
theorem zq:∀C,C∈([254]:List Addr)->fJ C "name":=(all_cons (dM (p:=(254,iL,246)) (mi 3 rfl) (mi 0 rfl)) all_nil)
theorem MQ:∀C,C∈([254]:List Addr)->fo C "name":=(all_cons (de (p:=(254,iL,246)) (mi 3 rfl) (mi 0 rfl)) all_nil)
theorem vi:∀C,C∈([254]:List Addr)->fJ C "tops":=(all_cons (dM (p:=(254,iL,246)) (mi 3 rfl) (mi 2 rfl)) all_nil)
theorem MR:∀C,C∈([254]:List Addr)->fo C "tops":=(all_cons (de (p:=(254,iL,246)) (mi 3 rfl) (mi 2 rfl)) all_nil)
theorem kA:∀C,C∈([254]:List Addr)->fJ C "edition":=(all_cons (dM (p:=(254,iL,246)) (mi 3 rfl) (mi 3 rfl)) all_nil)
theorem Fm:∀C,C∈([254]:List Addr)->fo C "edition":=(all_cons (de (p:=(254,iL,246)) (mi 3 rfl) (mi 3 rfl)) all_nil)
theorem dQ:∀C,C∈([346,526]:List Addr)->fJ C "sector":=(all_cons (dM (p:=(346,fE,343)) (mi 4 rfl) (mi 0 rfl)) (all_cons (dM (p:=(526,iT,446)) (mi 5 rfl) (mi 0 rfl)) all_nil))
theorem zr:∀C,C∈([346,526]:List Addr)->fo C "sector":=(all_cons (de (p:=(346,fE,343)) (mi 4 rfl) (mi 0 rfl)) (all_cons (de (p:=(526,iT,446)) (mi 5 rfl) (mi 0 rfl)) all_nil))
theorem MS:∀C,C∈([346]:List Addr)->fo C "slab":=(all_cons (de (p:=(346,fE,343)) (mi 4 rfl) (mi 1 rfl)) all_nil)
theorem H0:∀C,C∈([346]:List Addr)->fo C "record":=(all_cons (de (p:=(346,fE,343)) (mi 4 rfl) (mi 2 rfl)) all_nil)
theorem P4:∀C,C∈([346]:List Addr)->fo C "fan":=(all_cons (de (p:=(346,fE,343)) (mi 4 rfl) (mi 3 rfl)) all_nil)
theorem H3:∀C,C∈([346]:List Addr)->fo C "dnodes":=(all_cons (de (p:=(346,fE,343)) (mi 4 rfl) (mi 4 rfl)) all_nil)
theorem MT:∀C,C∈([346]:List Addr)->fJ C "ring":=(all_cons (dM (p:=(346,fE,343)) (mi 4 rfl) (mi 5 rfl)) all_nil)
theorem MU:∀C,C∈([346]:List Addr)->fo C "ring":=(all_cons (de (p:=(346,fE,343)) (mi 4 rfl) (mi 5 rfl)) all_nil)
theorem Ku:∀C,C∈([346]:List Addr)->fo C "defer":=(all_cons (de (p:=(346,fE,343)) (mi 4 rfl) (mi 6 rfl)) all_nil)
theorem xX:∀C,C∈([346]:List Addr)->fo C "most_record":=(all_cons (de (p:=(346,fE,343)) (mi 4 rfl) (mi 7 rfl)) all_nil)
theorem MW:∀C,C∈([346]:List Addr)->fJ C "uber":=(all_cons (dM (p:=(346,fE,343)) (mi 4 rfl) (mi 8 rfl)) all_nil)
theorem MX:∀C,C∈([346]:List Addr)->fo C "uber":=(all_cons (de (p:=(346,fE,343)) (mi 4 rfl) (mi 8 rfl)) all_nil)
theorem H4:∀C,C∈([346]:List Addr)->fJ C "config":=(all_cons (dM (p:=(346,fE,343)) (mi 4 rfl) (mi 9 rfl)) all_nil)
theorem H5:∀C,C∈([346]:List Addr)->fo C "config":=(all_cons (de (p:=(346,fE,343)) (mi 4 rfl) (mi 9 rfl)) all_nil)
theorem P5:∀C,C∈([346]:List Addr)->fo C "zap":=(all_cons (de (p:=(346,fE,343)) (mi 4 rfl) (mi 10 rfl)) all_nil)
theorem rV:∀C,C∈([526]:List Addr)->fJ C "waiting":=(all_cons (dM (p:=(526,iT,446)) (mi 5 rfl) (mi 2 rfl)) all_nil)
theorem xl:∀C,C∈([526]:List Addr)->fo C "waiting":=(all_cons (de (p:=(526,iT,446)) (mi 5 rfl) (mi 2 rfl)) all_nil)
theorem qx:∀C,C∈([526]:List Addr)->fJ C "is_out":=(all_cons (dM (p:=(526,iT,446)) (mi 5 rfl) (mi 3 rfl)) all_nil)
theorem zt:∀C,C∈([526]:List Addr)->fo C "is_out":=(all_cons (de (p:=(526,iT,446)) (mi 5 rfl) (mi 3 rfl)) all_nil)
theorem Kv:∀C,C∈([526]:List Addr)->fJ C "reads":=(all_cons (dM (p:=(526,iT,446)) (mi 5 rfl) (mi 4 rfl)) all_nil)
theorem BS:∀C,C∈([526]:List Addr)->fo C "reads":=(all_cons (de (p:=(526,iT,446)) (mi 5 rfl) (mi 4 rfl)) all_nil)
theorem H6:∀C,C∈([526]:List Addr)->fJ C "writes":=(all_cons (dM (p:=(526,iT,446)) (mi 5 rfl) (mi 5 rfl)) all_nil)
theorem zu:∀C,C∈([526]:List Addr)->fo C "writes":=(all_cons (de (p:=(526,iT,446)) (mi 5 rfl) (mi 5 rfl)) all_nil)
theorem b9:fS 142 "number" 118:=gY (p:=(142,"number",118)) (mi 0 rfl)
theorem b_:cE (.ref 118):=gZ (p:=(142,"number",118)) (mi 0 rfl)
theorem A5:fS 142 "text" 132:=gY (p:=(142,"text",132)) (mi 1 rfl)
theorem A6:cE (.ref 132):=gZ (p:=(142,"text",132)) (mi 1 rfl)
theorem zv:fS 142 "whole" 139:=gY (p:=(142,"whole",139)) (mi 2 rfl)
theorem zw:cE (.ref 139):=gZ (p:=(142,"whole",139)) (mi 2 rfl)
theorem xY:fS 192 "left" 168:=gY (p:=(192,"left",168)) (mi 4 rfl)
theorem xZ:cE (.ref 168):=gZ (p:=(192,"left",168)) (mi 4 rfl)
theorem qV:fS 192 "take" 175:=gY (p:=(192,"take",175)) (mi 5 rfl)
theorem qW:cE (.ref 175):=gZ (p:=(192,"take",175)) (mi 5 rfl)
theorem bV:fS 192 "number" 182:=gY (p:=(192,"number",182)) (mi 6 rfl)
theorem bW:cE (.ref 182):=gZ (p:=(192,"number",182)) (mi 6 rfl)
theorem x_:fS 192 "text" 189:=gY (p:=(192,"text",189)) (mi 7 rfl)
theorem yb:cE (.ref 189):=gZ (p:=(192,"text",189)) (mi 7 rfl)
theorem kT:fS 227 "plain" 224:=gY (p:=(227,"plain",224)) (mi 8 rfl)
theorem kW:cE (.ref 224):=gZ (p:=(227,"plain",224)) (mi 8 rfl)
theorem js:fS 254 "plain" 251:=gY (p:=(254,"plain",251)) (mi 9 rfl)
theorem jt:cE (.ref 251):=gZ (p:=(254,"plain",251)) (mi 9 rfl)
theorem p7:fS 526 "sectors" 453:=gY (p:=(526,"sectors",453)) (mi 10 rfl)
theorem p8:cE (.ref 453):=gZ (p:=(526,"sectors",453)) (mi 10 rfl)
theorem pA:fS 526 "want" 460:=gY (p:=(526,"want",460)) (mi 11 rfl)
theorem pB:cE (.ref 460):=gZ (p:=(526,"want",460)) (mi 11 rfl)
theorem A7:fS 526 "read" 467:=gY (p:=(526,"read",467)) (mi 12 rfl)
theorem A8:cE (.ref 467):=gZ (p:=(526,"read",467)) (mi 12 rfl)
theorem zx:fS 526 "write" 474:=gY (p:=(526,"write",474)) (mi 13 rfl)
theorem zy:cE (.ref 474):=gZ (p:=(526,"write",474)) (mi 13 rfl)
theorem Dk:fS 526 "put" 481:=gY (p:=(526,"put",481)) (mi 14 rfl)
theorem Dl:cE (.ref 481):=gZ (p:=(526,"put",481)) (mi 14 rfl)
theorem zz:fS 526 "flush" 488:=gY (p:=(526,"flush",488)) (mi 15 rfl)
theorem zA:cE (.ref 488):=gZ (p:=(526,"flush",488)) (mi 15 rfl)
theorem A9:fS 526 "harm" 516:=gY (p:=(526,"harm",516)) (mi 16 rfl)
theorem A_:cE (.ref 516):=gZ (p:=(526,"harm",516)) (mi 16 rfl)
end
section
section
variable {prog:Program}{w:World}{g:Heap}{A:Around}{s s':Shared}{ρ ρ':Nat->Addr}{m m':MH}
theorem gM{T:Addr->Prop}{b:MV}{v:Value}{t:Nat}(S:OK prog w g s ρ m)(r:a_ ρ m.n s.heap b v):lu prog w g T a_ s ρ m b m v {s with toks:=t}:=
 ⟨ρ,S.grow (s':= {s with toks:=t}) (fun ψ ψ e=>e),.grow (s':= {s with toks:=t}) (fun ψ ψ e=>e) rfl rfl,r⟩
end
theorem Fo{a b:Int}(h:b.natAbs<2 ^ 64):Builtin.divisionGoesByPylong a b=false:=by
 unfold Builtin.divisionGoesByPylong;have:¬((if(b==0)=true then 0 else b.natAbs.log2/30+1)>300):=by
  split
  ·exact aci
  ·have h2:b.natAbs.log2<64:=by
    by_cases h0:b.natAbs=0
    ·rw [h0];decide
    ·exact(Nat.log2_lt (k:=64) h0).mpr h
   exact acj h2
 dsimp only;rw [decide_eq_false this,Bool.false_and]
noncomputable def qy(p:Int->Int->Prop)[∀a b,Decidable (p a b)](f:Int->Int->Int)(x y:MV):MM MV:=fun m=>x.int?.bind fun a=>y.int?.bind fun b=>if p a b then some (.int (f a b),m) else none
theorem mf{op:Operator}{p:Int->Int->Prop}[∀a b,Decidable (p a b)]{f:Int->Int->Int}
  (h:∀(prog:Program) (w:World) (A:Around) (s:Shared) (a b:Int) (t u:Tok) (Q:Value->Shared->Prop) (E:Value->Shared->Prop),p a b->(∀k tk,Q (.int (f a b) k) {s with toks:=tk})->wpAny (model prog w) A (binaryOp op (.int a t) (.int b u)) Q E s):nO op (qy p f):=by
 intro prog w A g s ρ m x y a b hA S rx ry;exact .opt fun i hi=> .opt fun j hj=> .ite fun hp=>by
  obtain⟨t,rfl⟩:=rx.iD hi;obtain⟨u,rfl⟩:=ry.iD hj;exact aj (h _ _ _ _ _ _ _ _ _ _ hp fun k tk=>gM S (.int _ _))
noncomputable abbrev Jq:=qy (fun ψ ψ=>True) fun a b=>a-b
noncomputable abbrev BU:=qy (fun a b=>a.natAbs<2 ^ 64\/b.natAbs<2 ^ 64) fun a b=>a*b
noncomputable abbrev Dm:=qy (fun a b=>b≠0/\b.natAbs<2 ^ 64) fun a b=>a.fdiv b
noncomputable abbrev Jr:=qy (fun a b=>b≠0) fun a b=>a.fmod b
noncomputable abbrev MY:=qy (fun a b=>0<=b/\b<=1000000/\a.natAbs<2 ^ 64) fun a b=>a*2 ^ b.toNat
noncomputable abbrev MZ:=qy (fun a b=>0<=b) fun a b=>a.fdiv (2 ^ b.toNat)
noncomputable abbrev Sm:=qy (fun ψ ψ=>True) fun a b=>Builtin.bitAnd a b
noncomputable abbrev Js:=qy (fun a b=>0<=b/\b<=1000000/\a.natAbs<2 ^ 64) fun a b=>a ^ b.toNat
theorem oR:nO .Sub Jq:=mf fun prog w A s a b t u Q E hp q=>sub_int (q s.toks (s.toks+1))
theorem gD:nO .Mult BU:=mf fun prog w A s a b t u Q E hp q=>mul_int (q s.toks (s.toks+1)) (hp.elim (fun h=> .of_left (intBits_le_64 (by exact R5 h) (by exact R6 h))) fun h=> .of_right (intBits_le_64 (by exact R5 h) (by exact R6 h)))
theorem fb:nO .FloorDiv Dm:=mf fun prog w A s a b t u Q E hp q=>floordiv_int hp.1 (q s.toks (s.toks+1)) (.inl (Fo hp.2))
theorem dU:nO .Mod Jr:=mf fun prog w A s a b t u Q E hp q=>mod_int' hp (q s.toks (s.toks+1))
theorem P6:nO .LShift MY:=mf fun prog w A s a b t u Q E hp q=>lshift_int_small hp.1 hp.2.1 hp.2.2 (q s.toks (s.toks+1))
theorem P7:nO .RShift MZ:=mf fun prog w A s a b t u Q E hp q=>rshift_int hp (q s.toks (s.toks+1))
theorem P8:nO .BitAnd Sm:=mf fun prog w A s a b t u Q E hp q=>and_int (q s.toks (s.toks+1))
theorem Dn:nO .Pow Js:=mf fun prog w A s a b t u Q E hp q=>pow_int_small hp.1 hp.2.1 hp.2.2 (q s.toks (s.toks+1))
noncomputable def kX(f:Int->Int->Bool)(x y:MV):MM Bool:=fun m=>x.int?.bind fun a=>y.int?.bind fun b=>some (f a b,m)
theorem vj{op:CmpOp}{f:Int->Int->Bool}(h:∀(prog:Program) (w:World) (A:Around) (s:Shared) (a b:Int) (t u:Tok) (Q:Value->Shared->Prop) (E:Value->Shared->Prop),Q (.bool (f a b)) s->wpAny (model prog w) A (compareOp op (.int a t) (.int b u)) Q E s):jd op (kX f):=by
 intro prog w A g s ρ m x y a b hA S rx ry;exact .opt fun i hi=> .opt fun j hj=>by
  obtain⟨t,rfl⟩:=rx.iD hi;obtain⟨u,rfl⟩:=ry.iD hj;exact aj (h _ _ _ _ _ _ _ _ _ _ ⟨ρ,S,.refl,rfl⟩)
theorem fR:jd .Lt (kX fun a b=>decide (a<b)):=vj fun prog w A s a b t u Q E q=>lt_int q
theorem fQ:jd .LtE (kX fun a b=>decide (a<=b)):=vj fun prog w A s a b t u Q E q=>le_int q
theorem kY:jd .Gt (kX fun a b=>decide (a>b)):=vj fun prog w A s a b t u Q E q=>gt_int q
theorem H7:jd .GtE (kX fun a b=>decide (a>=b)):=vj fun prog w A s a b t u Q E q=>ge_int q
end
section
open Builtin
set_option pp.deepTerms false
set_option pp.deepTerms.threshold 6
variable {b:Array UInt8}{t:Tok}{Q:PySem.Fin->Shared->Prop}{x:Value}{a:Addr}{o:Obj}{id:String}{k:Nat}
section
variable {prog:Program}{w:World}{A:Around}{E:Value->Shared->Prop}{s:Shared}
theorem rW:typeLookup (.type "bytes") "__bytes__"=pure (some (.builtin "bytes.__bytes__")):=by rw [typeLookup_type,builtinLookup_eq_fast];kernel_rfl
theorem wq(h:Q (.done (.ret (.bytes b t))) s):
  wpAny (model prog w) A (Builtin.«bytes.__new__» ⟨[.type "bytes",.bytes b t], []⟩) Q E s:=by
 refine aN (wpAny_of_eq (a:=true) rfl ?_);refine bm_if_false rfl ?_;refine aN (wpAny_of_eq PySem.F.bm_sub ?_);refine bm_if_false rfl ?_;refine aN (wpAny_of_eq (PySem.F.bm_bind _) ?_);refine aN (wpAny_of_eq (a:=()) rfl ?_);refine aN (wpAny_of_eq (a:=()) rfl ?_);refine bm_if_false rfl ?_;refine aN (wpAny_specialOf (PySem.W.typeIs_bytes _ _ _) rW ?_);refine aN (wpAny_rule ?_);refine aN (wpAny_typeOf (PySem.W.typeIs_bytes _ _ _) ?_);refine bm_if_true rfl ?_;exact cP h
theorem rX{Q:Value->Shared->Prop}(h:∀A E,wpAny (model prog w) A (Builtin.«bytes.__new__» ⟨[.type "bytes",x], []⟩) (fun fin s'=>∃b t,fin= .done (.ret (.bytes b t))/\Q (.bytes b t) s') E s):
  wpAny (model prog w) A (call (.type "bytes") [x]) Q E s:=by
 refine callType_codes (Q₁:=fun obj s₁=>s₁.TypeIs obj "bytes"/\Q obj s₁) PySem.F.bm_called (PySem.F.bm_typeCall _) PySem.F.entry_object_init ?_ fun obj s₁ h₁=> ?_
 ·refine codeAny_of_tree ?_;refine aN (wpAny_of_eq (PySem.F.bm_newCall _) (cP ⟨plainId_quiet PySem.F.bm_plain _,codeAny_builtin PySem.F.bm_entry ?_⟩));refine wpAny_mono (h _ _) (fun fin s' q=> ?_) fun ψ ψ e=>e;obtain⟨b,t,rfl,q⟩:=q;exact⟨PySem.W.typeIs_bytes _ _ _,q⟩
 ·exact⟨h₁.1,PySem.F.args_object_init_2 obj _,object_init_meets PySem.F.bm_called.init.lookup PySem.F.bm_called.made rfl prog w A.in1 _ s₁ ⟨h₁.1,rfl,h₁.2⟩⟩
theorem vk:typeLookup (.type "int") "__bytes__"=pure none:=by rw [typeLookup_type,builtinLookup_eq_fast];kernel_rfl
theorem iU:typeLookup (.type "int") "__index__"=pure (some (.builtin "int.__index__")):=by rw [typeLookup_type,builtinLookup_eq_fast];kernel_rfl
theorem tT:isType (.type "bytes")=pure true:=rfl
theorem zB{n:Nat}(hx:x=Value.int (n:Int) t)(hn:n<=100000)(h:∀t' k,Q (.done (.ret (.bytes (Array.replicate n 0) t'))) {s with toks:=k}):
  wpAny (model prog w) A (Builtin.«bytes.__new__» ⟨[.type "bytes",x], []⟩) Q E s:=by
 have hT:s.TypeIs x "int":=by rw [hx];exact typeIs_int _ _ _
 have hI:asIndex x=pure (n:Int):=by rw [hx];rfl
 have hS:asStr? x=pure none:=by rw [hx];rfl
 refine aN (wpAny_of_eq tT ?_);refine bm_if_false rfl ?_;refine aN (wpAny_of_eq PySem.F.bm_sub ?_);refine bm_if_false rfl ?_;refine aN (wpAny_of_eq (PySem.F.bm_bind _) ?_);refine aN (wpAny_of_eq (a:=()) rfl ?_);refine aN (wpAny_of_eq (a:=()) rfl ?_);refine bm_if_false rfl ?_;refine aN (wpAny_specialOf hT vk ?_);dsimp only;rw [hS,hI];refine aN (aN (cP (cP ?_)));refine bm_if_false rfl ?_;refine aN (wpAny_specialOf hT iU ?_);rw [if_neg (show¬(Option.isNone (some (Value.builtin "int.__index__"))=true) from Bool.false_ne_true)];have ha:(pure (n:Int):Sem Int).attempt=pure (Except.ok (n:Int)):=rfl;rw [ha,LawfulMonad.pure_bind];have hf:(!Bytes.fitsIndex (n:Int))=false:=by
  unfold Bytes.fitsIndex;rw [decide_eq_true (show -(2 ^ 63:Int)<=(n:Int) by exact Rr),decide_eq_true (show(n:Int)<2 ^ 63 by exact Pm hn)];rfl
 have h34:¬((n:Int)>2 ^ 63-34):=by exact Z2 hn
 have h0:¬((n:Int)<0):=by exact Tx
 have hL:¬(Bytes.tooLong (n:Int).toNat=true):=by
  unfold Bytes.tooLong;rw [decide_eq_true_eq,sizeLine_eq];exact Rt hn
 dsimp only;rw [if_neg (by rw [hf];exact Bool.false_ne_true),if_neg h0,if_neg h34,if_neg hL];refine aN (wpAny_rule ?_);refine aN (wpAny_mkBytes ?_ (by rw [Array.size_replicate,sizeLine_eq];exact Z3 hn));have h':=h s.toks;rw [show(n:Int).toNat=n by exact Z4];exact cP (h' _)
theorem wt:typeLookup (.type "bytearray") "__bytes__"=pure none:=by rw [typeLookup_type,builtinLookup_eq_fast];kernel_rfl
theorem wu:typeLookup (.type "bytearray") "__index__"=pure none:=by rw [typeLookup_type,builtinLookup_eq_fast];kernel_rfl
theorem kZ:typeLookup (.type "bytearray") "__buffer__"=pure (some (.builtin "bytearray.__buffer__")):=by rw [typeLookup_type,builtinLookup_eq_fast];kernel_rfl
theorem nS:typeLookup (.type "bytearray") "__release_buffer__"=pure (some (.builtin "bytearray.__release_buffer__")):=by rw [typeLookup_type,builtinLookup_eq_fast];kernel_rfl
theorem sT:isSubtype (.type "bytearray") (.type "bytearray")=pure true:=by rw [isSubtype_type];kernel_rfl
theorem wx{name:String}{Q:Bool->Shared->Prop}(ho:s.heap.get? a=some o)(hc:o.cls= .type "bytearray")(hl:typeLookup (.type "bytearray") (Str.ofString name)=pure (some (.builtin id)))
  (h1:(!id.endsWith ("."++name))=false)(h2:id.dropRight (name.length+1)="bytearray")(h:Q true s):wpAny (model prog w) A (Bytes.slotIsOwn (.ref a) name) Q E s:=by
 have hT:s.TypeIs (.ref a) "bytearray":=⟨o,ho,hc⟩;refine aN (wpAny_specialOf hT hl ?_);refine bm_if_false h1 ?_;rw [h2];exact wpAny_isInstance hT sT h
theorem Ut:(!("bytearray.__buffer__":String).endsWith ("."++"__buffer__"))=false:=by decide +kernel
theorem M0:(!("bytearray.__release_buffer__":String).endsWith ("."++"__release_buffer__"))=false:=by decide +kernel
theorem Uu:("bytearray.__buffer__":String).dropRight (("__buffer__":String).length+1)="bytearray":=by decide +kernel
theorem M1:("bytearray.__release_buffer__":String).dropRight (("__release_buffer__":String).length+1)="bytearray":=by decide +kernel
theorem ik{Q:Array UInt8->Shared->Prop}(ho:s.heap.get? a=some o)(hd:o.data= .bytearray b k)(h:Q b s):wpAny (model prog w) A (Bytes.payload (.ref a)) Q E s:=by
 refine aN (aN (wpAny_load ho ?_));rw [hd];exact cP (cP h)
theorem H8{f:Bool}{Q:Option (Array UInt8)->Shared->Prop}(ho:s.heap.get? a=some o)(hc:o.cls= .type "bytearray")(hd:o.data= .bytearray b k)(h:Q (some b) s):
  wpAny (model prog w) A (Bytes.buffer? id (.ref a) f) Q E s:=by
 have hT:s.TypeIs (.ref a) "bytearray":=⟨o,ho,hc⟩;refine aN (wpAny_specialOf hT kZ ?_);refine aN (wx ho hc kZ Ut Uu ?_);refine bm_if_false rfl ?_;refine aN (wpAny_specialOf hT kZ ?_);refine aN ?_;refine aN (wx ho hc nS M0 M1 (cP ?_));refine bm_if_false rfl ?_;exact aN (ik ho hd (cP h))
theorem Ba(ho:s.heap.get? a=some o)(hc:o.cls= .type "bytearray")(hd:o.data= .bytearray b k)(hz:b.size<=100000)(h:∀t' k,Q (.done (.ret (.bytes b t'))) {s with toks:=k}):
  wpAny (model prog w) A (Builtin.«bytes.__new__» ⟨[.type "bytes",.ref a], []⟩) Q E s:=by
 have hT:s.TypeIs (.ref a) "bytearray":=⟨o,ho,hc⟩;refine aN (wpAny_of_eq tT ?_);refine bm_if_false rfl ?_;refine aN (wpAny_of_eq PySem.F.bm_sub ?_);refine bm_if_false rfl ?_;refine aN (wpAny_of_eq (PySem.F.bm_bind _) ?_);refine aN (wpAny_of_eq (a:=()) rfl ?_);refine aN (wpAny_of_eq (a:=()) rfl ?_);refine bm_if_false rfl ?_;refine aN (wpAny_specialOf hT wt ?_);refine aN (aN ?_);refine aN (wpAny_load ho ?_);rw [hd];refine cP (cP ?_);refine bm_if_false rfl ?_;refine aN (wpAny_specialOf hT wu ?_);refine bm_if_true rfl ?_
 first
  |show wpAny _ _ (Builtin.Bytes.buffer? "bytes.__new__" (.ref a) true >>= _) _ _ _
  |(refine aN ?_;show wpAny _ _ (Builtin.Bytes.buffer? "bytes.__new__" (.ref a) true >>= _) _ _ _)
 refine aN (H8 ho hc hd ?_);refine aN (wpAny_rule ?_);refine aN (wpAny_mkBytes ?_ (by rw [sizeLine_eq];exact Ha hz))
 first|exact cP (cP (h _ _))|exact aN (cP (cP (h _ _)))|exact cP (h _ _)
end
namespace BA
theorem mro:mroOf (.type "bytearray")=pure [.type "bytearray",.type "object"]:=by rw [mroOf_type];kernel_rfl
theorem Fp:typeLookup (.type "bytearray") "__new__"=pure (some (.builtin "bytearray.__new__")):=by rw [typeLookup_type,builtinLookup_eq_fast];kernel_rfl
theorem H9:Slot "bytearray" "__init__" "bytearray.__init__":=
 .of (owner:="bytearray") (n:="__init__") (by rw [typeLookup_type,builtinLookup_eq_fast];kernel_rfl) (by decide +kernel) (by decide +kernel) (by decide +kernel)
  (by first|exact .inl (by decide +kernel)|exact .inr (by decide +kernel)) (by rw [isSubtype_type];kernel_rfl)
theorem called:TypeCalled "bytearray" "bytearray.__new__" "bytearray.__init__":=
 ⟨by decide +kernel,by decide +kernel,⟨_,_,mro⟩,madeBy_type mro Fp (by decide +kernel),by decide +kernel,by rw [isSubtype_type];kernel_rfl,H9⟩
theorem H_:checkTypeCall "bytearray" ⟨[], []⟩=pure ():=by kernel_rfl
theorem zC(a:Value):checkTypeCall "bytearray" ⟨[a], []⟩=pure ():=by kernel_rfl
theorem Kw:checkBuiltinCall "bytearray.__new__" ⟨[.type "bytearray"], []⟩=pure ():=by kernel_rfl
theorem BV(a:Value):checkBuiltinCall "bytearray.__new__" ⟨[.type "bytearray",a], []⟩=pure ():=by kernel_rfl
theorem Ia:entryFor table "bytearray.__new__"=some Builtin.«list.__new__»:=
 entryFor_alias (id':="list.__new__") (by kernel_rfl) (by first|rfl|decide +kernel|(unfold String.splitOn;simp +decide [String.splitOnAux])) (by decide +kernel) (by kernel_rfl)
theorem zD:plainId "bytearray.__new__"=true:=by decide +kernel
theorem Fq:entryFor table "bytearray.__init__"=some Builtin.«bytearray.__init__»:=entryFor_of_tree (by kernel_rfl)
set_option maxRecDepth 1000000 in
set_option maxHeartbeats 4000000 in
theorem Ib:("bytearray.__new__".splitOn ".__new__").headD ""="bytearray":=by rw [split_bytearray];rfl
theorem Uv(o:Value):argsOk "bytearray.__init__" ⟨[o], []⟩:=by unfold argsOk;kernel_rfl
theorem M5(o a:Value):argsOk "bytearray.__init__" ⟨[o,a], []⟩:=by unfold argsOk;kernel_rfl
theorem Uw:Bytes.bindOptional "bytearray.__init__" "bytearray" ["source","encoding","errors"] [] []=pure [none,none,none]:=by kernel_rfl
theorem bind1(v:Value):Bytes.bindOptional "bytearray.__init__" "bytearray" ["source","encoding","errors"] [v] []=pure [some v,none,none]:=by kernel_rfl
section
variable {prog:Program}{w:World}{A:Around}{E:Value->Shared->Prop}{s:Shared}
theorem Kx{l:List Value}(hl:checkBuiltinCall "bytearray.__new__" ⟨.type "bytearray"::l, []⟩=pure ()){Q₁:Value->Shared->Prop}
  (h:Q₁ (.ref s.heap.objs.size) {s with heap:=s.heap.push {cls:= .type "bytearray",data:= .bytearray #[]}}):
  codeAny (model prog w) A (.call (.builtin "bytearray.__new__") ⟨.type "bytearray"::l, []⟩) (wants Q₁ E) s:=by
 refine codeAny_of_tree ?_;refine aN (wpAny_of_eq hl (cP ⟨plainId_quiet zD _,codeAny_builtin_stack Ia rfl fun p st=> ?_⟩));rw [Around.under_plainId zD _];have rM:=sT;have BN:=Ib;obtain⟨hp,g,d,tk,os⟩:=s;refine aN (m:=isType (.type "bytearray")) (wpAny_of_eq (a:=true) rfl ?_);refine bm_if_false rfl ?_;rw [BN];refine aN (wpAny_of_eq rM ?_);refine bm_if_false rfl ?_;refine aN (wpAny_of_eq (a:=Data.bytearray #[]) (by kernel_rfl) ?_);refine bm_if_true (by kernel_rfl) ?_;refine aN (wpAny_newObj_type (cP h))
end
end BA
end
section
open Builtin
variable {n:Nat}{T id:String}{b:Builtin}{name:Str}{self:Value}{Q:Shared->Prop}{args:List Value}{E:Value->Shared->Prop}{t:Tok}
theorem ng{k:Int}(h0:0<=k)(h1:k<n):seqIndex? k n=some k.toNat:=by
 have hn:¬k<0:=by exact Rf h0
 simp [seqIndex?,hn,h0,h1]
theorem Dp(h:0<n):seqIndex? (-1) n=some (n-1):=by
 unfold seqIndex?;simp;exact YW h
section
variable {prog:Program}{w:World}{A:Around}{s:Shared}
theorem zE{R:Result->Shared->Prop}{args:Args}(fY:jY (.builtin id args)=true)(hb:entryFor table id=some b)
  (h:ay s (fun e s'=>R (.error e) s') (A.under (.builtin id args)) (model prog w) (fun fin s'=>match fin with| .done f=>R (.ok f) s'| .again c'=>c'.quiet=true/\cQ (model prog w) A c' R s') (b args)):cQ (model prog w) A (.builtin id args) R s:=by
 refine dE fY ?_;show ay s _ _ _ _ (match entryFor table id with|some b=>b args|none=>unsupported ((withoutEnding? id "#data").getD id));rw [hb];exact h
theorem um{rest:List Value}{Q:Value->Shared->Prop}(slot:Slot T name id)(fY:jY (.builtin id ⟨self::rest, []⟩)=true)(entry:entryFor table id=some b)(hT:s.TypeIs self T)(ha:argsOk id ⟨self::rest, []⟩)
  (h:ay s cX A.in1 (model prog w) (fun fin s'=>∃v,fin= .done (.ret v)/\Q v s') (b ⟨self::rest, []⟩)):ay s cX A (model prog w) Q (call (.builtin id) (self::rest)):=by
 refine iH (ir fY (plainId_quiet slot.plain _) entry (aj (slot.check _ _ _ _ _ _ _ _ hT ha ?_)));rw [Around.under_plainId slot.plain];exact au h (fun fin s' ⟨v,e,q⟩=>by subst e;exact q) fun ψ ψ f=>f
theorem tU{Q:Option Value->Shared->Prop}(slot:Slot T name id)(hT:s.TypeIs self T)
  (h:ay s cX A (model prog w) (fun v s'=>Q (some v) s') (call (.builtin id) (self::args))):ay s cX A (model prog w) Q (callSpecial? self name args):=by
 refine af (aj (wpAny_specialOf hT slot.lookup ?_));refine aK (af (cR (slot.bind self) ?_));exact af (au h (fun v s' q=>ax q) fun ψ ψ f=>f)
theorem Ic{newId yB:String}{Bi:Builtin}{Q Q₁:Value->Shared->Prop}(ft:TypeCalled T newId yB)
  (Uy:checkTypeCall T ⟨args, []⟩=pure ())(P9:entryFor table yB=some Bi)(fY:∀obj,jY (.builtin yB ⟨obj::args, []⟩)=true)
  (nQ:codeAny (model prog w) A.in1 (.call (.builtin newId) ⟨.type T::args, []⟩) (wants Q₁ cX) s)
  (Uz:∀obj s₁,Q₁ obj s₁->s₁.TypeIs obj T/\argsOk yB ⟨obj::args, []⟩/\ay s₁ cX A.in1.in1 (model prog w) (fun fin s'=>fin= .done (.ret .none)/\Q obj s') (Bi ⟨obj::args, []⟩)):
  ay s cX A (model prog w) Q (call (.type T) args):=by
 obtain⟨c,tl,adB⟩:=ft.mro;have UA:=ft.made;have rM:=ft.sub;refine iH (dE rfl ?_);refine ax ⟨Code.quiet_builtin _ (by decide +kernel),zE rfl F.entry_type_call ?_⟩;rw [Around.under_plain (weight_type_call_type T args []) rfl];have h1:=ft.notType;have h2:=ft.canCreate;unfold Builtin.«type.__call__»;dsimp only;simp -iota only [h1,Bool.false_eq_true,if_false];rw [if_neg (by rw [h2];exact Bool.false_ne_true)];refine af (cR Uy (af (cR adB ?_)));refine af (cR UA (af (ax (af (aK (iH (Kg (codeAny_mono nQ fun r s₁ hr=> ?_))))))));rcases r with e|(_|_|_|obj) <;> first|exact hr.elim|skip
 obtain⟨hT,UB,hsi⟩:=Uz _ _ hr;refine af (aj (wpAny_isInstance hT rM ?_));refine af (aK (tU ft.init hT (um ft.init (fY obj) P9 hT UB (au hsi (fun fin s' ⟨e,q⟩=>⟨_,e, ?_⟩) fun ψ ψ f=>f))));exact ax q
theorem BW{o i v:Value}{Q:Unit->Shared->Prop}(hT:s.TypeIs o T)(hn:seqItemTypes.contains T=false)(slot:Slot T "__setitem__" id)(h:ay s cX A (model prog w) (fun ψ=>Q ()) (call (.builtin id) [o,i,v])):ay s cX A (model prog w) Q (setItem o i v):=by
 refine aK (af (aj (wpAny_sequenceKey hT hn ?_)));exact af (tU slot hT (au h (fun v s' q=>ax q) fun ψ ψ f=>f))
end
noncomputable abbrev kB(b:Array UInt8):Obj:= {cls:= .type "bytearray",data:= .bytearray b}
section
variable {prog:Program}{w:World}{A:Around}{s:Shared}{a:Addr}{b:Array UInt8}
theorem rY{Q:Bool->Shared->Prop}(ho:s.heap.get? a=some (kB b))(h:Q false s):wpAny (model prog w) A (Bytes.ownRelease (.ref a)) Q E s:=by
 exact aN (wx ho rfl nS M0 M1 (cP h))
theorem vm{Q:Bool->Shared->Prop}(ho:s.heap.get? a=some (kB b))(h:Q false s):ay s cX A (model prog w) Q (Bytes.exported (.ref a)<||>(do return(<- Bytes.exportsOf (.ref a))>0)):=by
 refine af (m:=Bytes.exported (.ref a)) (AV ?_);refine af (m:=Bytes.exportsOf (.ref a)) ?_;refine af (aj (wpAny_load ho ?_));exact ax (ax h)
theorem kC{Q:Unit->Shared->Prop}{f:Array UInt8->Array UInt8}(ho:s.heap.get? a=some (kB b))(hz:(f b).size<=100000)(h:∀h',h'.get? a=some (kB (f b))->Heap.SameBut a s.heap h'->Q () {s with heap:=h'}):wpAny (model prog w) A (Bytes.write (.ref a) f) Q E s:=by
 have D':(s.heap.update a (Obj.mapBytearray f)).get? a=some (kB (f b)):=Heap.get?_update_self _ ho rfl;refine aN (wpAny_load ho (show wpAny _ _ (update a _ >>= _) _ _ _ from aN (wpAny_update ho ?_)));refine wpAny_lookBehind D' ?_ (h _ D' (Heap.SameBut.update ..));exact if_neg (by rw [sizeLine_eq];exact YX hz)
theorem Ky(ho:s.heap.get? a=some (kB b))(h:∀h',h'.get? a=some (kB #[])->Heap.SameBut a s.heap h'->Q {s with heap:=h'}):
  ay s cX A (model prog w) (fun fin s'=>fin= .done (.ret .none)/\Q s') (Builtin.«bytearray.__init__» ⟨[.ref a], []⟩):=by
 refine af (aj (rY ho ?_));refine af (cR BA.Uw ?_);dsimp only;refine af (cR (a:=()) rfl (af (cR (a:=()) rfl (af (vm ho ?_)))));refine af (aj (kC (f:=fun ψ=> #[]) ho (by simp) fun h' hF hs=> ?_));exact ax ⟨rfl,h h' hF hs⟩
theorem Dq{x:Value}(hx:x=Value.int (n:Int) t)(hn:n<=100000)(ho:s.heap.get? a=some (kB b))(h:∀h',h'.get? a=some (kB (Array.replicate n 0))->Heap.SameBut a s.heap h'->Q {s with heap:=h'}):
  ay s cX A (model prog w) (fun fin s'=>fin= .done (.ret .none)/\Q s') (Builtin.«bytearray.__init__» ⟨[.ref a,x], []⟩):=by
 have hT:∀s:Shared,s.TypeIs x "int":=fun s=>by rw [hx];exact typeIs_int _ _ _
 have hI:asIndex x=pure (n:Int):=by rw [hx];rfl
 have hS:asStr? x=pure none:=by rw [hx];rfl
 refine af (aj (rY ho ?_));refine af (cR (BA.bind1 _) ?_);dsimp only;refine af (cR (a:=()) rfl (af (cR (a:=()) rfl (af (vm ho ?_)))));refine af (aj (kC (f:=fun ψ=> #[]) ho (by simp) fun h' hF hs=> ?_));rw [hS];refine af (ax ?_);refine af (ax ?_);refine af (aj (wpAny_specialOf (hT _) iU ?_));rw [hI];have ha:(pure (n:Int):Sem Int).attempt=pure (Except.ok (n:Int)):=rfl;rw [if_pos (show(Option.isSome (some (Value.builtin "int.__index__"))=true) from rfl),ha,LawfulMonad.pure_bind];have hf:(!Bytes.fitsIndex (n:Int))=false:=by
  unfold Bytes.fitsIndex;rw [decide_eq_true (show -(2 ^ 63:Int)<=(n:Int) by exact Rr),decide_eq_true (show(n:Int)<2 ^ 63 by exact Pm hn)];rfl
 have h0:¬((n:Int)<0):=by exact Tx
 have h63:¬(((n:Int)==2 ^ 63-1)=true):=by
  rw [beq_iff_eq];exact YY hn
 have hL:¬(Bytes.tooLong (n:Int).toNat=true):=by
  unfold Bytes.tooLong;rw [decide_eq_true_eq,sizeLine_eq];exact Rt hn
 dsimp only;have hf':¬((!Bytes.fitsIndex (n:Int))=true):=by rw [hf];exact Bool.false_ne_true
 rw [if_neg hf',if_neg h0,if_neg h63,if_neg hL];refine af (kn ?_)
 by_cases hp:(n:Int)>0
 ·rw [if_pos hp];refine af (aj (kC (s:= {s with heap:=h'}) (f:=fun ψ=>Array.replicate (n:Int).toNat 0) hF (by rw [Array.size_replicate];exact YZ hn) fun h2 pj wy=> ?_));refine ax ⟨rfl,h h2 (by rw [show(n:Int).toNat=n by exact Y0 hp] at pj;exact pj) ⟨wy.1.trans hs.1,fun c hc=>(wy.2 c hc).trans (hs.2 c hc)⟩⟩
 ·rw [if_neg hp];obtain rfl:n=0:=by exact Y1 hp
  exact ax ⟨rfl,h h' hF hs⟩
theorem zF{x:Array UInt8}(hn:x.size<=100000)(ho:s.heap.get? a=some (kB b))(h:∀h',h'.get? a=some (kB x)->Heap.SameBut a s.heap h'->Q {s with heap:=h'}):
  ay s cX A (model prog w) (fun fin s'=>fin= .done (.ret .none)/\Q s') (Builtin.«bytearray.__init__» ⟨[.ref a,.bytes x t], []⟩):=by
 unfold Builtin.«bytearray.__init__»;dsimp only;refine af (aj (rY ho ?_));refine af (cR (BA.bind1 _) ?_);dsimp only;refine af (cR (a:=()) rfl (af (cR (a:=()) rfl (af (vm ho ?_)))));refine af (aj (kC (f:=fun ψ=> #[]) ho (by simp) fun h' hF hs=> ?_));refine af (cR (a:=none) rfl ?_);refine af (ax ?_);refine af (cR (a:=none) (KBy.special_eq (by rw [typeLookup_type,builtinLookup_eq_fast];kernel_rfl)) ?_);refine af (cR (a:=some x) (by
  first|exact KBy.buffer_eq|rfl) ?_)
 refine af (kn ?_);refine af (aj (kC (s:= {s with heap:=h'}) (f:=fun ψ=>x) hF hn fun h2 pj wy=> ?_));exact ax ⟨rfl,h h2 pj ⟨wy.1.trans hs.1,fun c hc=>(wy.2 c hc).trans (hs.2 c hc)⟩⟩
end
end
section
open Builtin
variable {Q:Value->Shared->Prop}{k:Int}{t:Tok}
namespace BA
theorem Kz:Slot "bytearray" "__len__" "bytearray.__len__":=
 .of (owner:="bytearray") (n:="__len__") (by rw [typeLookup_type,builtinLookup_eq_fast];kernel_rfl) (by decide +kernel) (by decide +kernel) (by decide +kernel) (by first|exact .inl (by decide +kernel)|exact .inr (by decide +kernel)) sT
theorem lT:Slot "bytearray" "__getitem__" "bytearray.__getitem__":=
 .of (owner:="bytearray") (n:="__getitem__") (by rw [typeLookup_type,builtinLookup_eq_fast];kernel_rfl) (by decide +kernel) (by decide +kernel) (by decide +kernel) (by first|exact .inl (by decide +kernel)|exact .inr (by decide +kernel)) sT
theorem lU:Slot "bytearray" "__setitem__" "bytearray.__setitem__":=
 .of (owner:="bytearray") (n:="__setitem__") (by rw [typeLookup_type,builtinLookup_eq_fast];kernel_rfl) (by decide +kernel) (by decide +kernel) (by decide +kernel) (by first|exact .inl (by decide +kernel)|exact .inr (by decide +kernel)) sT
theorem vn:Slot "bytearray" "extend" "bytearray.extend":=
 .of (owner:="bytearray") (n:="extend") (by rw [typeLookup_type,builtinLookup_eq_fast];kernel_rfl) (by decide +kernel) (by decide +kernel) (by decide +kernel) (by first|exact .inl (by decide +kernel)|exact .inr (by decide +kernel)) sT
theorem entry_len:entryFor table "bytearray.__len__"=some Builtin.«bytearray.__len__»:=entryFor_of_tree (by kernel_rfl)
theorem rZ:entryFor table "bytearray.__getitem__"=some Builtin.«bytearray.__getitem__»:=entryFor_of_tree (by kernel_rfl)
theorem r_:entryFor table "bytearray.__setitem__"=some Builtin.«bytearray.__setitem__»:=entryFor_of_tree (by kernel_rfl)
theorem Bb:entryFor table "bytearray.extend"=some Builtin.«bytearray.extend»:=entryFor_of_tree (by kernel_rfl)
theorem KA(a:Value):argsOk "bytearray.__len__" ⟨[a], []⟩:=by unfold argsOk;kernel_rfl
theorem tV(a b:Value):argsOk "bytearray.__getitem__" ⟨[a,b], []⟩:=by unfold argsOk;kernel_rfl
theorem tW(a b c:Value):argsOk "bytearray.__setitem__" ⟨[a,b,c], []⟩:=by unfold argsOk;kernel_rfl
theorem Dr(a b:Value):argsOk "bytearray.extend" ⟨[a,b], []⟩:=by unfold argsOk;kernel_rfl
theorem Ds:typeOf (.builtin "bytearray.extend")=pure (.type "method_descriptor"):=by show builtinType _=_;rw [builtinType_eq_fast];kernel_rfl
theorem Bc:typeLookup (.type "bytearray") "__getattribute__"=pure (some (.builtin "bytearray.__getattribute__")):=by rw [typeLookup_type,builtinLookup_eq_fast];kernel_rfl
theorem tD:(Manifest.canonical "bytearray.__getattribute__" != "object.__getattribute__")=false:=by decide +kernel
theorem Bd:typeLookup (.type "bytearray") "__getattr__"=pure none:=by rw [typeLookup_type,builtinLookup_eq_fast];kernel_rfl
end BA
section
variable {prog:Program}{w:World}{A:Around}{s:Shared}{a:Addr}{b:Array UInt8}{E:Value->Shared->Prop}
theorem gi(ho:s.heap.get? a=some (kB b)):s.TypeIs (.ref a) "bytearray":=⟨_,ho,rfl⟩
theorem Be{pl:Sem Bool}{Q:Value×List Value->Shared->Prop}(ho:s.heap.get? a=some (kB b))(h:Q (.builtin "bytearray.extend", [.ref a]) s):wpAny (model prog w) A (getMethod (.ref a) "extend" pl) Q E s:=by
 have hT:=gi ho;refine aN (wpAny_specialOf hT BA.Bc ?_);show wpAny _ A (if(Manifest.canonical "bytearray.__getattribute__" != "object.__getattribute__")=true then _ else _) Q E s;rw [BA.tD,if_neg Bool.false_ne_true];refine aN (wpAny_specialOf hT BA.Bd ?_);refine aN (wpAny_specialOf hT BA.vn.lookup ?_);refine aN (wpAny_of_eq BA.Ds ?_);refine aN (wpAny_load ho ?_);exact aN (wpAny_rule (cP h))
theorem Bf(a:Addr)(b:Array UInt8):Meets (Builtin.«bytearray.__len__» ⟨[.ref a], []⟩) (fun ψ R s=>s.heap.get? a=some (kB b)/\R (.ok (.ret (.int b.size s.toks))) {s with toks:=s.toks+1}):=
 .of_wp fun prog w A R s h=>by
  obtain⟨ho,h⟩:=h;show wpAny _ _ (Bytes.payload (.ref a) >>= _) _ _ _;exact aN (ik ho rfl (aN (wpAny_mkInt (cP ⟨_,rfl,h⟩))))
theorem P_(ho:s.heap.get? a=some (kB b))(hz:b.size<=100000)(h:Q (.int b.size (s.toks+1)) {s with toks:=s.toks+1+1}):wpAny (model prog w) A (call (.builtin "len") [.ref a]) Q E s:=
 call_len_meets (gi ho) BA.Kz BA.entry_len (BA.KA _) (Bf a b) (by exact Tx) (by exact RS hz) (fun ψ hq=>⟨ho,hq⟩) h
theorem sa{x:Value}{Q:Option Int->Shared->Prop}(hx:x=Value.int k t)(h0:0<=k)(h1:k<2 ^ 62)(h:Q (some k) s):wpAny (model prog w) A (Bytes.subscript? x) Q E s:=by
 have hT:s.TypeIs x "int":=by rw [hx];exact typeIs_int _ _ _
 have hI:asIndex x=pure k:=by rw [hx];rfl
 refine aN (wpAny_specialOf hT iU ?_);rw [if_neg (show¬(Option.isNone (some (Value.builtin "int.__index__"))=true) from Bool.false_ne_true),hI,LawfulMonad.pure_bind];have hf:(!Bytes.fitsIndex k)=false:=by
  unfold Bytes.fitsIndex;rw [decide_eq_true (show -(2 ^ 63:Int)<=k by exact aaW h0),decide_eq_true (show k<2 ^ 63 by exact aaX h1)];rfl
 rw [hf];exact cP h
theorem zH(a:Addr)(b:Array UInt8)(x:Value)(k:Int)(t:Tok)(hx:x=Value.int k t)(h0:0<=k)(h1:k<b.size)(hz:b.size<=100000):
  Meets (Builtin.«bytearray.__getitem__» ⟨[.ref a,x], []⟩) (fun ψ R s=>s.heap.get? a=some (kB b)/\R (.ok (.ret (.int ((b.getD k.toNat 0).toNat:Int) s.toks))) {s with toks:=s.toks+1}):=
 .of_wp fun prog w A R s h=>by
  obtain⟨ho,h⟩:=h;show wpAny _ _ (Bytes.subscript? x >>= _) _ _ _;refine aN (sa hx h0 (by exact Rg h1 hz) ?_);refine aN (ik ho rfl ?_);have hl:k.toNat<b.size:=by exact aaY h0 h1
  rw [ng h0 h1];have e:b[k.toNat]? =some (b.getD k.toNat 0):=by simp [hl]
  show wpAny _ _ (match b[k.toNat]? with|some x=>_|none=>_) _ _ _;rw [e];exact aN (wpAny_mkInt (cP ⟨_,rfl,h⟩))
theorem M6(ho:s.heap.get? a=some (kB b))(h0:0<=k)(h1:k<b.size)(hz:b.size<=100000)(h:Q (.int ((b.getD k.toNat 0).toNat:Int) s.toks) {s with toks:=s.toks+1}):wpAny (model prog w) A (getItem (.ref a) (.int k t)) Q E s:=
 getItem_meets (gi ho) rfl BA.lT BA.rZ (BA.tV _ _) (zH a b _ k t rfl h0 h1 hz) ⟨ho,h⟩
theorem qz{sl:Addr}{l u:Value}{lo hi:Option Int}{Q:Value×Value×Value->Shared->Prop}(hs:s.heap.IsSliceOf sl l u .none)(hl:IsPart l lo)(hu:IsPart u hi)(h:Q (rawPart lo,rawPart hi,rawPart none) s):wpAny (model prog w) A (Bytes.sliceParts (.ref sl)) Q E s:=by
 obtain⟨o,ho,hc,hd⟩:=hs;have hT:s.TypeIs (.ref sl) "slice":=⟨o,ho,hc⟩;refine aN (wpAny_field (x:= .none) ho hd rfl ?_);have part:∀ {v:Value} {r:Option Int} {K:Value->Shared->Prop},IsPart v r->K (rawPart r) s->wpAny (model prog w) A (do
   if v== .none then return .none
   if(<- specialOf v "__index__").isNone then
    rule "bytes.slice.part-no-index";raiseError "TypeError" "slice indices must be integers or None or have an __index__ method"
   return rawInt (<- asIndex v)) K E s:=fun {v r K} hp hk=>by
  cases hp with
  |none=>exact cP hk
  |int i t=>
   refine aN (wpAny_specialOf (typeIs_int _ _ _) iU ?_);exact aN (wpAny_of_eq (a:=i) rfl (cP hk))
 refine aN (part .none ?_);refine aN (wpAny_field (x:=l) ho hd rfl ?_);refine aN (part hl ?_);refine aN (wpAny_field (x:=u) ho hd rfl ?_);refine aN (part hu ?_);exact cP h
end
end
section
open Builtin
variable {α:Type}{l u:Value}{hi lo:Option Int}{Q:Value->Shared->Prop}{n:Int}{t:Tok}
noncomputable abbrev c8{α:Type}(b:List α)(lo hi:Option Int):List α:=(b.drop (lo.elim 0 (clipAt b.length))).take (hi.elim b.length (clipAt b.length)-lo.elim 0 (clipAt b.length))
theorem sU(b:List α){a c:Nat}(h:a<=c):c8 b (some (a:Int)) (some (c:Int))=(b.drop a).take (c-a):=by
 simp only [c8,Option.elim,clipAt_nat]
 by_cases h1:c<=b.length
 ·rw [Nat.min_eq_left h1,Nat.min_eq_left (jb h h1)]
 ·rw [Nat.min_eq_right (by exact Hd h1)]
  by_cases h2:a<=b.length
  ·rw [Nat.min_eq_left h2,qP (by rw [oH];exact Tu),qP (by rw [oH];exact Xn h h1 h2)]
  ·rw [Nat.min_eq_right (by exact Hd h2),List.drop_eq_nil_of_le (Nat.le_refl _),List.drop_eq_nil_of_le (by exact Hd h2)];simp
theorem uo(b:List α)(c:Nat):c8 b none (some (c:Int))=b.take c:=by
 simp only [c8,Option.elim,clipAt_nat,List.drop_zero,Nat.sub_zero]
 by_cases h1:c<=b.length
 ·rw [Nat.min_eq_left h1]
 ·rw [Nat.min_eq_right (by exact Hd h1),g_,qP (by exact Hd h1)]
theorem zI(b:List α)(a:Nat):c8 b (some (a:Int)) none=b.drop a:=by
 simp only [c8,Option.elim,clipAt_nat]
 by_cases h2:a<=b.length
 ·rw [Nat.min_eq_left h2,qP (by rw [oH];exact Tu)]
 ·rw [Nat.min_eq_right (by exact Hd h2),List.drop_eq_nil_of_le (Nat.le_refl _),List.drop_eq_nil_of_le (by exact Hd h2)];simp
theorem qY(b:List α)(lo hi:Option Int):(c8 b lo hi).length<=b.length:=by
 rw [ie,oH];exact Xo
theorem Fs(b:List UInt8)(lo hi:Option Int):Bytes.sliced b.toArray ((lo.elim 0 (clipAt b.length):Nat):Int) ((hi.elim b.length (clipAt b.length):Nat):Int) 1=(c8 b lo hi).toArray:=by
 unfold Bytes.sliced;simp only [sliceRange_one,pick_run]
theorem sb(b:List UInt8)(lo hi:Option Int):sliceIndices (rawPart lo) (rawPart hi) (rawPart none) b.toArray.size=pure (((lo.elim 0 (clipAt b.length):Nat):Int),((hi.elim b.length (clipAt b.length):Nat):Int),1):=by
 have h:=sliceIndices_raw lo hi none b.toArray.size (fun e=>nomatch e);rw [sliceBounds_plain] at h
 simpa using h
section
variable {prog:Program}{w:World}{A:Around}{s:Shared}{a:Addr}{b:List UInt8}{E:Value->Shared->Prop}
theorem yc(a sl:Addr)(b:List UInt8)(hl:IsPart l lo)(hu:IsPart u hi)(hz:b.length<=100000):
  Meets (Builtin.«bytearray.__getitem__» ⟨[.ref a,.ref sl], []⟩) (fun ψ R s=>s.heap.get? a=some (pe b)/\s.heap.IsSliceOf sl l u .none/\R (.ok (.ret (.ref s.heap.objs.size))) {s with heap:=s.heap.push (pe (c8 b lo hi))}):=
 .of_wp fun prog w A R s h=>by
  obtain⟨ho,hs,h⟩:=h;obtain⟨os,Ki,Ft,hds⟩:=id hs;have hT:s.TypeIs (.ref sl) "slice":=⟨os,Ki,Ft⟩;show wpAny _ _ (Bytes.subscript? (.ref sl) >>= _) _ _ _;refine aN ?_;refine aN (wpAny_specialOf hT slice_no_index (cP ?_));refine aN (wpAny_typeOf hT ?_);refine bm_if_false rfl ?_;refine aN (qz hs hl hu ?_);refine aN (ik ho rfl ?_);refine aN (wpAny_of_eq (sb b lo hi) ?_);dsimp only;rw [Fs];refine aN ?_;refine wpAny_newObj_type (cP ⟨_,rfl,h⟩) ?_;show(c8 b lo hi).toArray.size<=sizeLine;rw [fW,sizeLine_eq];have:=qY b lo hi;exact Wl hz this
theorem KC{sl:Addr}(ho:s.heap.get? a=some (pe b))(hs:s.heap.IsSliceOf sl l u .none)(hl:IsPart l lo)(hu:IsPart u hi)(hz:b.length<=100000)
  (h:Q (.ref s.heap.objs.size) {s with heap:=s.heap.push (pe (c8 b lo hi))}):wpAny (model prog w) A (getItem (.ref a) (.ref sl)) Q E s:=
 getItem_meets (gi ho) (by decide) BA.lT BA.rZ (BA.tV _ _) (yc a sl b hl hu hz) ⟨ho,hs,h⟩
theorem Fu{x:Value}{Q:UInt8->Shared->Prop}(hx:x=Value.int n t)(h0:0<=n)(h1:n<256)(h:Q n.toNat.toUInt8 s):wpAny (model prog w) A (Bytes.byteValue x) Q E s:=by
 have hI:asIndex x=pure n:=by rw [hx];rfl
 unfold Bytes.byteValue;rw [hI,LawfulMonad.pure_bind];refine bm_if_false ?_ (cP h);rw [decide_eq_false (show¬n<0 by exact Rf h0),decide_eq_false (show¬n>=256 by exact Xp h1)];rfl
theorem Bg(a:Addr)(b:List UInt8)(x:Value)(k:Int)(t:Tok)(y:Value)(n:Int)(u:Tok)(hx:x=Value.int k t)(hy:y=Value.int n u)(h0:0<=k)(h1:k<b.length)(hz:b.length<=100000)(hn:0<=n)(oG:n<256):
  Meets (Builtin.«bytearray.__setitem__» ⟨[.ref a,x,y], []⟩) (fun ψ R s=>s.heap.get? a=some (pe b)/\∀h',h'.get? a=some (pe (b.set k.toNat n.toNat.toUInt8))->Heap.SameBut a s.heap h'->R (.ok (.ret .none)) {s with heap:=h'}):=
 .of_wp fun prog w A R s h=>by
  obtain⟨ho,h⟩:=h;refine aN (sa hx h0 (by exact Rg h1 hz) ?_);refine aN (Fu hy hn oG ?_);refine aN (ik ho rfl ?_);rw [ng h0 (by simpa using h1)];refine wpAny_bind (kC (b:=b.toArray) (f:=fun b=>b.setIfInBounds k.toNat n.toNat.toUInt8) ho (by simp;exact Xq hz) fun h' hF hs=> ?_);refine cP ⟨_,rfl,h h' ?_ hs⟩
  simpa using hF
theorem Qa{k:Int}{u:Tok}{Q:Unit->Shared->Prop}(ho:s.heap.get? a=some (pe b))(h0:0<=k)(h1:k<b.length)(hz:b.length<=100000)(hn:0<=n)(oG:n<256)
  (h:∀h',h'.get? a=some (pe (b.set k.toNat n.toNat.toUInt8))->Heap.SameBut a s.heap h'->Q () {s with heap:=h'}):ay s cX A (model prog w) Q (setItem (.ref a) (.int k t) (.int n u)):=by
 refine BW (gi ho) (by decide) BA.lU (aj (call_meets BA.lU (gi ho) BA.r_ (BA.tW _ _ _) (Bg a b _ k t _ n u rfl rfl h0 h1 hz hn oG) ⟨ho,fun h' a b=>h h' a b⟩))
theorem Dt{args:List Value}(Uy:checkTypeCall "bytearray" ⟨args, []⟩=pure ())(hcn:checkBuiltinCall "bytearray.__new__" ⟨.type "bytearray"::args, []⟩=pure ())(UB:∀obj,argsOk "bytearray.__init__" ⟨obj::args, []⟩)
  (r:List UInt8)(hi:∀(A:Around) (a:Addr) (s:Shared) (b:Array UInt8) (K:Shared->Prop),s.heap.get? a=some (kB b)->(∀h',h'.get? a=some (kB r.toArray)->Heap.SameBut a s.heap h'->K {s with heap:=h'})->ay s cX A (model prog w) (fun fin s'=>fin= .done (.ret .none)/\K s') (Builtin.«bytearray.__init__» ⟨.ref a::args, []⟩))
  (h:∀h',h'.get? s.heap.objs.size=some (pe r)->Sub s.heap h'->Q (.ref s.heap.objs.size) {s with heap:=h'}):ay s cX A (model prog w) Q (call (.type "bytearray") args):=by
 refine Ic (Q₁:=fun obj s₁=>obj= .ref s.heap.objs.size/\s₁= {s with heap:=s.heap.push {cls:= .type "bytearray",data:= .bytearray #[]}}) BA.called Uy BA.Fq (fun obj=> ?_) (BA.Kx hcn ⟨rfl,rfl⟩) ?_
 ·show(!pT.contains "bytearray.__init__")=true
  decide +kernel
 ·rintro obj s₁ ⟨rfl,rfl⟩;have ho:(s.heap.push {cls:= .type "bytearray",data:= .bytearray #[]}:Heap).get? s.heap.objs.size=some (kB #[]):=iQ _ rfl;refine⟨⟨_,ho,rfl⟩,UB _,hi _ _ _ _ _ ho fun h' hF hs=>h h' hF fun c o e=> ?_⟩;have hc:c≠s.heap.objs.size:=Nat.ne_of_lt (Heap.lt_size e);exact(hs.2 c hc).trans (gS _ e)
end
end
section
open Builtin
variable {prog:Program}{w:World}{A:Around}{s:Shared}{x:List UInt8}{t:Tok}{Q:Value->Shared->Prop}{sl:Addr}{l u:Value}{en st:Nat}
theorem Bh:isSubtype (.type "bytes") (.type "bytearray")=pure false:=by rw [isSubtype_type];kernel_rfl
theorem sub_bytes_complex:isSubtype (.type "bytes") (.type "complex")=pure false:=by rw [isSubtype_type];kernel_rfl
theorem tE:typeLookup (.type "bytes") "__index__"=pure none:=by rw [typeLookup_type,builtinLookup_eq_fast];kernel_rfl
theorem vo:typeLookup (.type "bytes") "__int__"=pure none:=by rw [typeLookup_type,builtinLookup_eq_fast];kernel_rfl
theorem tG:typeLookup (.type "bytes") "__float__"=pure none:=by rw [typeLookup_type,builtinLookup_eq_fast];kernel_rfl
theorem zJ(hz:x.length<=100000)(h:∀h',h'.get? s.heap.objs.size=some (pe x)->Sub s.heap h'->Q (.ref s.heap.objs.size) {s with heap:=h'}):ay s cX A (model prog w) Q (call (.type "bytearray") [.bytes x.toArray t]):=
 Dt (BA.zC _) (BA.BV _) (fun obj=>BA.M5 obj _) x (fun A a s b K ho k=>zF (by simpa using hz) ho k) h
theorem Du{n:Nat}(hz:n<=100000)(h:∀h',h'.get? s.heap.objs.size=some (pe (List.replicate n 0))->Sub s.heap h'->Q (.ref s.heap.objs.size) {s with heap:=h'}):ay s cX A (model prog w) Q (call (.type "bytearray") [.int (n:Int) t]):=by
 obtain⟨x,hx⟩:∃x,x=Value.int (n:Int) t:=⟨_,rfl⟩;rw [<- hx];exact Dt (BA.zC _) (BA.BV _) (fun obj=>BA.M5 obj _) (List.replicate n 0) (fun A a s b K ho k=>Dq hx hz ho fun h' hF hs=>k h' (by rw [hF, <- List.toArray_replicate]) hs) h
theorem KD(h:∀h',h'.get? s.heap.objs.size=some (pe [])->Sub s.heap h'->Q (.ref s.heap.objs.size) {s with heap:=h'}):ay s cX A (model prog w) Q (call (.type "bytearray") []):=
 Dt BA.H_ BA.Kw (fun obj=>BA.Uv obj) [] (fun A a s b K ho k=>Ky ho k) h
section
variable {prog:Program}{w:World}{A:Around}{s:Shared}{a:Addr}{b:List UInt8}
theorem vp{Q:Shared->Prop}(ho:s.heap.get? a=some (pe b))(hs:s.heap.IsSliceOf sl l u .none)(hl:IsPart l (some (st:Int)))(hu:IsPart u (some (en:Int)))(h1:st<=en)(h2:en<=b.length)(hx:x.length=en-st)(hz:b.length<=100000)
  (h:∀h',h'.get? a=some (pe (b.take st++x++b.drop en))->(∀c o,c≠a->s.heap.get? c=some o->h'.get? c=some o)->Q {s with heap:=h'}):
  ay s cX A (model prog w) (fun fin s'=>∃v,fin= .done (.ret v)/\Q s') (Builtin.«bytearray.__setitem__» ⟨[.ref a,.ref sl,.bytes x.toArray t], []⟩):=by
 obtain⟨os,Ki,Ft,hds⟩:=id hs;have hT:s.TypeIs (.ref sl) "slice":=⟨os,Ki,Ft⟩;have hB:s.TypeIs (.bytes x.toArray t) "bytes":=typeIs_bytes _ _ _;unfold Builtin.«bytearray.__setitem__»;dsimp only;refine af (aj ?_);refine aN (wpAny_specialOf hT slice_no_index (cP ?_));refine af (aj (wpAny_typeOf hT ?_));refine af (aj (qz hs hl hu ?_));refine af (aj (wpAny_isInstance hB Bh ?_));refine af (aj ?_);refine aN (m:=do let r <- specialOf (.bytes x.toArray t) "__index__";pure r.isSome) (aN (wpAny_specialOf hB tE (cP ?_)));refine aN (m:=do let r <- specialOf (.bytes x.toArray t) "__int__";pure r.isSome) (aN (wpAny_specialOf hB vo (cP ?_)));refine aN (m:=do let r <- specialOf (.bytes x.toArray t) "__float__";pure r.isSome) (aN (wpAny_specialOf hB tG (cP ?_)));refine wpAny_isInstance hB sub_bytes_complex ?_;refine af (cR (a:=none) rfl ?_);refine af (kn (af (zJ (by exact ack h1 h2 hx hz) fun M7 uZ rQ=> ?_)));have adD:M7.get? sl=some os:=rQ _ _ Ki;refine af (aK (aj (qz (s:= {s with heap:=M7}) ⟨os,adD,Ft,hds⟩ hl hu ?_)));refine af (aj (ik uZ rfl ?_));have hoa:M7.get? a=some (pe b):=rQ _ _ ho;refine af (aj (ik (s:= {s with heap:=M7}) hoa rfl ?_));refine af (cR (sb b (some (st:Int)) (some (en:Int))) ?_);have e1:(some (st:Int)).elim 0 (clipAt b.length)=st:=by show clipAt b.length (st:Int)=st;rw [clipAt_nat];exact acm h1 h2
 have e2:(some (en:Int)).elim b.length (clipAt b.length)=en:=by show clipAt b.length (en:Int)=en;rw [clipAt_nat];exact acn h2
 rw [e1,e2];have e3:Max.max (st:Int) (en:Int)=en:=by exact aco h1 e1 e2
 have e4:((x.toArray.size:Int) != (en:Int)-(st:Int))=false:=by rw [List.size_toArray,hx];simp;exact acq h1 e1 e2 e3
 rw [e3,e4];refine af (kn (af (aj (kC (s:= {s with heap:=M7}) (b:=b.toArray) (f:=fun b=>b.extract 0 (st:Int).toNat++x.toArray++b.extract (en:Int).toNat b.size) hoa ?_ fun h2' pj wy=> ?_))))
 ·simp;exact acr h1 h2 hx hz e1 e2 e3
 ·refine ax ⟨_,rfl,h h2' ?_ fun c o hc e=>(wy.2 c hc).trans (rQ c o e)⟩;rw [pj];have:(b.toArray.extract 0 (st:Int).toNat++x.toArray++b.toArray.extract (en:Int).toNat b.toArray.size)=(b.take st++x++b.drop en).toArray:=by
   have e5:List.take (b.length-en) (List.drop en b)=List.drop en b:=qP (by rw [oH];exact Tu);simp [e5]
  rw [this]
theorem Dv{Q:Unit->Shared->Prop}(ho:s.heap.get? a=some (pe b))(hs:s.heap.IsSliceOf sl l u .none)(hl:IsPart l (some (st:Int)))(hu:IsPart u (some (en:Int)))(h1:st<=en)(h2:en<=b.length)(hx:x.length=en-st)(hz:b.length<=100000)
  (h:∀h',h'.get? a=some (pe (b.take st++x++b.drop en))->(∀c o,c≠a->s.heap.get? c=some o->h'.get? c=some o)->Q () {s with heap:=h'}):
  ay s cX A (model prog w) Q (setItem (.ref a) (.ref sl) (.bytes x.toArray t)):=by
 refine BW (gi ho) rfl BA.lU (um BA.lU ?_ BA.r_ (gi ho) (BA.tW _ _ _) (vp ho hs hl hu h1 h2 hx hz h));show(!pT.contains "bytearray.__setitem__")=true
 decide +kernel
theorem Ie(ho:s.heap.get? a=some (pe b))(hz:b.length+x.length<=100000)(h:∀h',h'.get? a=some (pe (b++x))->Heap.SameBut a s.heap h'->Q .none {s with heap:=h'}):
  ay s cX A (model prog w) Q (call (.builtin "bytearray.extend") [.ref a,.bytes x.toArray t]):=by
 have hB:s.TypeIs (.bytes x.toArray t) "bytes":=typeIs_bytes _ _ _;refine um BA.vn ?_ BA.Bb (gi ho) (BA.Dr _ _) ?_
 ·show(!pT.contains "bytearray.extend")=true
  decide +kernel
 refine af (cR (a:=(.ref a,.bytes x.toArray t)) ?_ ?_)
 ·rfl
 refine af (cR (KBy.special_eq KBy.look_buffer) ?_);refine af (kn (af (aj (ik ho rfl ?_))));have htb:Bytes.takeBufferQuiet? "bytearray.extend" (.bytes x.toArray t) 0=pure (some (x.toArray,none)):=by
  have h1:Bytes.takeBuffer? "bytearray.extend" (.bytes x.toArray t) 0=pure (some (x.toArray,none)):=by
   unfold Bytes.takeBuffer?;rw [KBy.special_eq KBy.look_buffer];have hf:((0:Int)==Bytes.fullReadOnly)=false:=by decide
   simp -iota only [pure_bind,KBy.own_buffer,hf,Bool.not_true,Bool.false_eq_true,if_false];rw [KBy.buffer_eq]
   rfl
  unfold Bytes.takeBufferQuiet?;rw [h1]
  rfl
 refine af (cR htb ?_);show ay _ _ _ _ _ (do
   if !x.toArray.isEmpty then Bytes.checkResize (.ref a)
   Bytes.write (.ref a) (· ++x.toArray)
   ret .none)
 have fin:ay s cX A.in1 (model prog w) (fun fin s'=>∃v,fin= .done (.ret v)/\Q v s') (do Bytes.write (.ref a) (· ++x.toArray);ret .none):=by
  refine af (aj (kC (b:=b.toArray) (f:=fun b=>b++x.toArray) ho (by simp;exact acs hz) fun h' hF hs=>ax ⟨_,rfl,h h' ?_ hs⟩));rw [hF,List.append_toArray]
 split
 ·refine af ?_;refine af (vm ho ?_);exact ax fin
 ·exact fin
end
end
section
set_option backward.match.sparseCases false
variable {i n:Nat}{xs:List MV}{k:Int}{prog:Program}{w:World}{A:Around}{s:Shared}{g h:Heap}{a b v:Value}{ρ:Nat->Addr}{m:MH}{es:List (Int×MV)}{kvs:List (Int×Value)}{x:MV}
section
variable {prog:Program}{w:World}{g:Heap}{A:Around}{s s':Shared}{ρ ρ':Nat->Addr}{m m':MH}{E:Value->Shared->Prop}
theorem sW{o:Obj}{mo:MO}{K:Value->Shared->Prop}{t:Nat}(S:OK prog w g s ρ m)(hf:o.isFreed=false)(hr:lr ρ m.n s.heap (eP ρ m.n s.heap.objs.size) (m.n+1) (s.heap.push o)->mR prog w (eP ρ m.n s.heap.objs.size) (m.n+1) (s.heap.push o) m.n mo o)
  (k:∀ρ' s',OK prog w g s' ρ' (m.new mo)->dh fk s ρ m s' ρ' (m.new mo)->K (.ref (ρ' m.n)) s'):K (.ref s.heap.objs.size) {s with heap:=s.heap.push o,toks:=t}:=by
 have hs:Sub s.heap (s.heap.push o):=fun a o' e=>gS _ e;have V:dh fk s ρ m {s with heap:=s.heap.push o,toks:=t} ρ m:= .grow hs rfl rfl;have:=k (eP ρ m.n s.heap.objs.size) {s with heap:=s.heap.push o,toks:=t} ((S.grow hs).new (a:=s.heap.objs.size) (o:=o) (iQ _ hf) (S.pg (cA _)) (S.lC (cA _)) fun M=>hr ⟨fun i hi=>fC hi,Nat.le_succ _,fun a o' e f=>hs a o' e⟩) (V.v8 (cA _));rw [ei] at this;exact this
theorem OK.lst(S:OK prog w g s ρ m)(hi:i<m.n)(e:m.ob i= .list xs):∃vs ep,s.heap.get? (ρ i)=some (fO vs ep)/\bI ρ m.n s.heap xs vs:=by
 obtain⟨o,ho,r⟩:=S.ob i hi;rw [e] at r;obtain⟨vs,ep,rfl,rs⟩:=r;exact⟨vs,ep,ho,rs⟩
theorem OK.bar(S:OK prog w g s ρ m){b:List UInt8}(hi:i<m.n)(e:m.ob i= .ba b):s.heap.get? (ρ i)=some (pe b):=by
 obtain⟨o,ho,r⟩:=S.ob i hi;rw [e] at r;cases r;exact ho
end
noncomputable def zK(x y:MV):MM MV:=fun m=>match x with
 | .int a=>y.int?.bind fun b=>some (.int (a+b),m)
 | .bytes a=>y.qn.bind fun b=>if a.length+b.length<=100000 then some (.bytes (a++b),m) else none
 | .str a=>y.uW.bind fun b=>if a.length+b.length<=100000 then some (.str (a++b),m) else none
 | .obj i=>y.ig.bind fun j=>(m.ob i).gQ.bind fun xs=>(m.ob j).gQ.bind fun ys=>if xs.length+ys.length<=100000 then some (.obj m.n,m.new (.list (xs++ys))) else none
 |_=>none
theorem bY:nO .Add zK:=by
 intro prog w A g s ρ m x y a b hA S rx ry;refine rx.casesOn True.intro (fun ψ=>True.intro) (fun k t=> .opt fun j hj=>by obtain⟨u,rfl⟩:=ry.iD hj;exact aj (add_int (gM S (.int _ _)))) (fun k t=> .opt fun j hj=> .ite fun h=>by obtain⟨u,rfl⟩:=ry.w9 hj;exact aj (add_str (fun t' tk=>gM S (.str _ _)) (by rw [sizeLine_eq];exact TL h))) (fun k t=> ?_) (fun ψ ψ=>True.intro) (fun ψ=>True.intro) (fun hi=> ?_) (fun ψ=>True.intro)
 ·exact .opt fun j hj=> .ite fun h=>by
   obtain⟨u,rfl⟩:=ry.uX hj;refine aj (KBy.add_bytes (by rw [fW,fW];exact TL h) fun t' kk=> ?_);rw [List.append_toArray];exact gM S (.bytes _ _)
 ·exact .opt fun j hj=> .opt fun xs q1=> .opt fun ys q2=> .ite fun h=>by
   obtain⟨hj,rfl⟩:=ry.ij hj;obtain⟨vs,ep,h1,r1⟩:=S.lst hi (MO.jN q1);obtain⟨us,CT,h2,r2⟩:=S.lst hj (MO.jN q2);refine aj (P.add_list h1 h2 ?_ (by rw [fW,fW, <- r1.length, <- r2.length,sizeLine_eq];exact TL h));rw [List.append_toArray];exact sW (K:=lu prog w g fk a_ s ρ m (.obj m.n) (m.new (.list (xs++ys)))) (t:=s.toks) (mo:= .list (xs++ys)) S rfl (fun M=>⟨_,0,rfl,(r1.append r2).mono M⟩) fun ρ' s' S' V'=>⟨ρ',S',V',.obj (gA _)⟩
noncomputable def lz(k:Int):List (Int×MV)->Option MV
 | []=>none
 |(k',v)::r=>if k'=k then some v else lz k r
theorem uq{k':Int}{v:MV}{r:List (Int×MV)}:lz k ((k',v)::r)=if k'=k then some v else lz k r:=rfl
noncomputable def BX(k:Int)(x:MV)(es:List (Int×MV)):List (Int×MV):=if es.any (fun kv=>kv.1=k) then es.map (fun kv=>if kv.1=k then(kv.1,x) else kv) else es++ [(k,x)]
theorem zL{value slice:Expr}{o i:Value}{ops:List Value}{T id:String}{Q:Value->Shared->Prop}(hT:s.TypeIs o T)
  (hl:typeLookup (.type T) "__getitem__"=pure (some (.builtin id)))(hg:ay s cX A (model prog w) Q (getItem o i))
  (hs:subscripted slice false o i=operate ops (getItem o i)):ay s cX A (model prog w) Q (subscriptTail value slice o i):=by
 refine af ?_;rw [getitemInPython_of_ne hT.not_modules];refine af (aj (wpAny_specialOf hT hl ?_));have fin:ay s cX A (model prog w) (fun r s₃=>ay s₃ cX A (model prog w) Q (letTemporaryGo value o r >>= fun ψ=>pure r)) (subscripted slice false o i):=by
  rw [hs];exact qi (au hg (fun r s₃ h₃=>af (aj (wpAny_letTemporaryGo (show ay _ _ _ _ _ _ from ax h₃)))) fun ψ ψ x=>x)
 first
  |exact ax (af fin)
  |exact af (ax (af fin))
  |exact af fin
noncomputable def zM(k:Int)(m:MH):MO->Option (MV×MH)
 | .list xs=>if 0<=k/\k<2 ^ 62 then(xs[k.toNat]?).bind fun v=>some (v,m) else none
 | .ba b=>if 0<=k/\k<b.length/\b.length<=100000 then some (.int ((b.getD k.toNat 0).toNat:Int),m) else none
 | .dict es=>(lz k es).bind fun v=>some (v,m)
 |_=>none
noncomputable def zN(x y:MV):MM MV:=fun m=>y.int?.bind fun k=>match x with
 | .obj i=>zM k m (m.ob i)
 | .tup xs=>if -1<=k/\k<2 ^ 62 then(xs[if k<0 then xs.length-1 else k.toNat]?).bind fun v=>some (v,m) else none
 | .str x=>if 0<=k/\k<x.cps.size/\k<2 ^ 62 then some (.str ⟨#[x.cps.getD k.toNat 0]⟩,m) else none
 |_=>none
def lV(prog:Program)(w:World)(g:Heap)(A:Around)(a b:Value)(s:Shared)(ρ:Nat->Addr)(m:MH)(r:Option (MV×MH)):Prop:=match r with
 |none=>True
 |some (z,m')=>∃T id,s.TypeIs a T/\typeLookup (.type T) "__getitem__"=pure (some (.builtin id))/\ay s cX A (model prog w) (lu prog w g fk a_ s ρ m z m') (getItem a b)
def UC(f:MV->MV->MM MV):Prop:=
 ∀prog w A g s ρ m x y a b,dj 0 A->OK prog w g s ρ m->a_ ρ m.n s.heap x a->a_ ρ m.n s.heap y b->lV prog w g A a b s ρ m (f x y m)
theorem lV.opt{γ:Type}{o:Option γ}{f:γ->Option (MV×MH)}(k:∀x,o=some x->lV prog w g A a b s ρ m (f x)):lV prog w g A a b s ρ m (o.bind f):=by
 cases o with
 |none=>exact True.intro
 |some x=>exact k x rfl
theorem lV.ite{c:Prop}[Decidable c]{r:Option (MV×MH)}(k:c->lV prog w g A a b s ρ m r):lV prog w g A a b s ρ m (if c then r else none):=by
 by_cases h:c
 ·rw [if_pos h];exact k h
 ·rw [if_neg h];exact True.intro
section
variable {ρ:Nat->Addr}{n:Nat}{h:Heap}
theorem fh.get(r:fh ρ n h es kvs)(k:Int):match lz k es with
  |some x=>∃v,valueAt kvs k=some v/\a_ ρ n h x v
  |none=>valueAt kvs k=none:=by
 induction r with
 |nil=>rfl
 | @cons k' x v fs es q _ ih=>
  rw [uq]
  by_cases hk:k'=k
  ·subst hk;rw [if_pos rfl];exact⟨v,by simp [valueAt],q⟩
  ·rw [if_neg hk];have:valueAt ((k',v)::es) k=valueAt es k:=by simp [valueAt,hk]
   rw [this];exact ih
theorem fh.lookup(r:fh ρ n h es kvs)(e:lz k es=some x):∃v,valueAt kvs k=some v/\a_ ρ n h x v:=by
 have:=r.get k;rw [e] at this;exact this
theorem fh.any(r:fh ρ n h es kvs)(k:Int):kvs.any (fun kv=>kv.1=k)=es.any (fun kv=>kv.1=k):=by
 induction r with
 |nil=>rfl
 |cons _ _ ih=>simp only [List.any_cons,ih]
theorem fh.append{fs:List (Int×MV)}{lvs:List (Int×Value)}(r:fh ρ n h es kvs)(q:fh ρ n h fs lvs):fh ρ n h (es++fs) (kvs++lvs):=by
 induction r with
 |nil=>exact q
 |cons a _ ih=>exact .cons a ih
theorem fh.put(r:fh ρ n h es kvs)(q:a_ ρ n h x v):fh ρ n h (BX k x es) (stored kvs k v):=by
 delta BX stored;rw [r.any k]
 split
 ·have key:∀ {es:List (Int×MV)} {kvs:List (Int×Value)},fh ρ n h es kvs->fh ρ n h (es.map (fun kv=>if kv.1=k then(kv.1,x) else kv)) (kvs.map (fun kv=>if kv.1=k then(kv.1,v) else kv)):=by
   intro es kvs r
   induction r with
   |nil=>exact .nil
   | @cons k' x' v' fs es q' _ ih=>
    simp only [List.map_cons]
    by_cases hk:k'=k
    ·rw [if_pos hk,if_pos hk];exact .cons q ih
    ·rw [if_neg hk,if_neg hk];exact .cons q' ih
  exact key r
 ·exact r.append (.cons q .nil)
theorem fh.length(r:fh ρ n h es kvs):es.length=kvs.length:=by
 induction r with
 |nil=>rfl
 |cons _ _ ih=>simp [ih]
end
theorem Qb:UC zN:=by
 intro prog w A g s ρ m x y a b hA S rx ry;refine .opt fun k hk=> ?_;obtain⟨t,rfl⟩:=ry.iD hk;refine rx.casesOn True.intro (fun ψ=>True.intro) (fun ψ ψ=>True.intro) (fun x t=> ?_) (fun ψ ψ=>True.intro) (@fun xs vs ta ep ha rs=> ?_) (fun ψ=>True.intro) (@fun i hi=> ?_) (fun ψ=>True.intro)
 ·exact .ite fun h=>by
   refine⟨"str",_,typeIs_str _ _ _,slot_str_getitem.lookup,aj (getItem_str (c:=x.cps.getD k.toNat 0) ?_ ?_ (gM S (.str _ _)))⟩
   ·rw [decide_eq_false (by exact abx h),decide_eq_false (by exact aby h)];rfl
   ·rw [show x.length=x.cps.size from rfl,ng h.1 h.2.1];have hl:k.toNat<x.cps.size:=by exact abz h
    simp [hl]
 ·exact .ite fun hk=> .opt fun v hv=>by
   obtain⟨u,hu,ru⟩:=rs.get hv;have j_:(if k<0 then xs.length-1 else k.toNat)<xs.length:=(List.getElem?_eq_some_iff.mp hv).1;have hlen:vs.toArray.size=xs.length:=by rw [fW,rs.length]
   refine⟨"tuple",_,⟨_,ha,rfl⟩,F.slot_tuple_getitem.lookup,aj (P.getItem_tuple (k:=if k<0 then xs.length-1 else k.toNat) (y:=u) ha (by exact abq hk) (by exact abr hk) ?_ (by simpa using hu) ⟨ρ,S,.refl,ru⟩)⟩;rw [hlen]
   by_cases h0:k<0
   ·obtain rfl:k= -1:=by exact abt hk h0
    rw [if_pos h0] at j_ ⊢;exact Dp (by exact abu j_)
   ·rw [if_neg h0] at j_ ⊢;exact ng (by exact abv h0) (by exact abw j_ h0)
 ·refine(?_:lV _ _ _ _ _ _ _ _ _ (zM k m (m.ob i)));cases q1:m.ob i with
  |list xs=>
   exact .ite fun hk=> .opt fun v hv=>by
    obtain⟨vs,ep,h1,r1⟩:=S.lst hi q1;obtain⟨u,hu,ru⟩:=r1.get hv;have hl:s.heap.IsList (ρ i) vs.toArray:=⟨_,h1,rfl,_,rfl⟩;exact⟨_,_,hl.typeIs,slot_list_getitem.lookup,aj (wpAny_getItem_list (x:=u) hl hk.1 (by exact abp hk) (by simpa using hu) ⟨ρ,S,.refl,ru⟩)⟩
  |ba bb=>
   exact .ite fun h=>by
    have ho:=S.bar hi q1;refine⟨_,_,gi ho,BA.lT.lookup,aj (M6 ho h.1 (by simpa using h.2.1) (by simpa using h.2.2) ?_)⟩;have:(bb.toArray.getD k.toNat 0)=bb.getD k.toNat 0:=by simp
    rw [this];exact gM S (.int _ _)
  |dict es=>
   exact .opt fun v hv=>by
    obtain⟨o,ho,r⟩:=S.ob i hi;rw [q1] at r;obtain⟨hc,sd,kvs,hd,hr⟩:=r;have hD:s.heap.DictOf (intKind prog w) (ρ i) kvs:=Heap.dictOf_iff.mpr ⟨o,ho,hd⟩;obtain⟨u,hu,ru⟩:=hr.lookup hv;exact⟨_,_,hD.typeIs,slot_dict_getitem.lookup,aj (wpAny_getItem_of (knd:=intKind prog w) (k:=k) (by simp [intKind,Value.isInt]) hD.mapOf hu (gM S ru))⟩
  |_=>exact True.intro
theorem bK{sg:Sg}{v i:Expr}{p:Pos}{cv ci:av->MM MV}(hv:cD n sg v cv)(hi:cD n sg i ci)(hs:∀o j,subscripted i false o j=operate [o,j] (getItem o j)):
  cD n sg (.Subscript v i p) (tj cv ci zN):=by
 intro prog w A g env fr s ρ m hA S F;refine .bind fun x m1 e1=> .bind fun y m2 e2=> .of fun b m' e=> ?_;refine jc ((hv _ _ A _ _ _ _ _ _ hA S F).step e1 fun a s1 ρ1 S1 V1 r1=> ?_);refine(hi _ _ A _ _ _ _ _ _ hA S1 (F.dP V1)).step e2 fun c s2 ρ2 S2 V2 r2=> ?_;have h:=Qb _ _ A _ _ _ _ _ _ _ _ (hA.less (Nat.zero_le _)) S2 (r1.mono V2.mono) r2;rw [e] at h;obtain⟨T,id,hT,hl,h⟩:=h;exact zL hT hl (au h (fun v s3 ⟨ρ3,S3,V3,r3⟩=>⟨ρ3,S3,(V1.comp V2).comp V3,r3⟩) fun ψ ψ f=>f) (hs _ _)
noncomputable def tX:MV->Option (Option Int)
 | .none=>some none
 | .int k=>some (some k)
 |_=>none
noncomputable def Dx(lo hi:Option Int)(m:MH):MO->Option (MV×MH)
 | .list xs=>if xs.length<=100000 then some (.obj m.n,m.new (.list (c8 xs lo hi))) else none
 | .ba x=>if x.length<=100000 then some (.obj m.n,m.new (.ba (c8 x lo hi))) else none
 |_=>none
noncomputable def tY(x a b:MV):MM MV:=fun m=>(tX a).bind fun lo=>(tX b).bind fun hi=>match x with
 | .obj i=>Dx lo hi m (m.ob i)
 | .bytes x=>if x.length<=100000 then some (.bytes (c8 x lo hi),m) else none
 |_=>none
theorem bI.cut{vs:List Value}(r:bI ρ n h xs vs)(lo hi:Option Int):bI ρ n h (c8 xs lo hi) (c8 vs lo hi):=by
 unfold c8;rw [r.length];exact(r.drop _).take _
theorem a_.part{o:Option Int}(r:a_ ρ n h x v)(e:tX x=some o):IsPart v o:=
 r.casesOn (motive_1:=fun x v ψ=>tX x=some o->IsPart v o) (fun e=>dZ e▸ .none) (fun ψ=>cj) (fun ψ ψ e=>dZ e▸ .int _ _) (fun ψ ψ=>cj) (fun ψ ψ=>cj) (fun ψ ψ=>cj) (fun ψ=>cj) (fun ψ=>cj) (fun ψ=>cj) e
end
section
variable {e o:Expr}{prog:Program}{w:World}{g:Heap}{A:Around}{hi lo:Option Expr}{p p':Pos}{ce ch cl co:av->MM MV}{v x y:MV}{s3:Shared}{ρ3:Nat->Addr}{m3:MH}{l:Addr}{va xa:Value}
def xm(n:Nat)(sg:Sg)(e:Option Expr)(c:av->MM MV):Prop:=
 ∀prog w A g env fr s ρ m,dj n A->OK prog w g s ρ m->dw sg env fr g s ρ m.n->Comes a_ s ρ m prog w g A (c fr m) (evalPart e env)
section
variable {n:Nat}{sg:Sg}
theorem fL:xm n sg none (Kc .none):=fun prog w A g env fr s ρ m hA S F=>Comes.pure S fun K k=>ax (k _ _ rfl rfl rfl .none)
theorem b8{c:av->MM MV}(h:cD n sg e c):xm n sg (some e) c:=fun prog w A g env fr s ρ m hA S F=>h _ _ A _ _ _ _ _ _ hA S F
noncomputable abbrev slO(l u:Value):Obj:= {cls:= .type "slice",data:= .fields #[l,u,.none]}
theorem wA{env:Env}{fr:av}{s:Shared}{ρ:Nat->Addr}{m m1 m2:MH}{K:Value->Shared->Prop}(hl:xm n sg lo cl)(hh:xm n sg hi ch)(hA:dj n A)(S:OK prog w g s ρ m)(F:dw sg env fr g s ρ m.n)
  (e1:cl fr m=some (x,m1))(e2:ch fr m1=some (y,m2))
  (k:∀a b t s' ρ',OK prog w g s' ρ' m2->dh fk s ρ m s' ρ' m2->a_ ρ' m2.n s'.heap x a->a_ ρ' m2.n s'.heap y b->s'.heap.IsSliceOf t a b .none->K (.ref t) s'):ay s cX A (model prog w) K (eval (.Slice lo hi none p) env):=by
 refine Ho ((hl _ _ A _ _ _ _ _ _ hA S F).step e1 fun a s1 ρ1 S1 V1 r1=> ?_);refine(hh _ _ A _ _ _ _ _ _ hA S1 (F.dP V1)).step e2 fun b s2 ρ2 S2 V2 r2=> ?_;refine ax ?_;have hs:Sub s2.heap (s2.heap.push (slO a b)):=fun c o e=>gS _ e;have V3:dh fk s2 ρ2 m2 {s2 with heap:=s2.heap.push (slO a b)} ρ2 m2:= .grow hs rfl rfl;exact k a b s2.heap.objs.size _ ρ2 (S2.grow hs) ((V1.comp V2).comp V3) ((r1.mono V2.mono).mono V3.mono) (r2.mono V3.mono) ⟨_,iQ _ rfl,rfl,rfl⟩
theorem Qc{z:MV}{a ya za:Value}(S3:OK prog w g s3 ρ3 m3)(r1:a_ ρ3 m3.n s3.heap x a)(r2:a_ ρ3 m3.n s3.heap y ya)(r3:a_ ρ3 m3.n s3.heap z za)(zO:s3.heap.IsSliceOf l ya za .none):
  lV prog w g A a (.ref l) s3 ρ3 m3 (tY x y z m3):=by
 refine .opt fun Bj q1=> .opt fun pk q2=> ?_;refine r1.casesOn True.intro (fun ψ=>True.intro) (fun ψ ψ=>True.intro) (fun ψ ψ=>True.intro) (fun x t=> ?_) (fun ψ ψ=>True.intro) (fun ψ=>True.intro) (@fun i hi=> ?_) (fun ψ=>True.intro)
 ·exact .ite fun hz=>by
   have e':KBy.picked x.toArray Bj pk=(c8 x Bj pk).toArray:=by rw [KBc.picked_eq];simp only [c8,List.size_toArray]
   refine⟨_,"bytes.__getitem__",typeIs_bytes _ _ _,FB.slot_bytes_getitem.lookup,aj (getItem_meets (typeIs_bytes _ _ _) rfl FB.slot_bytes_getitem FB.entry_bytes_getitem (FB.args_bytes_getitem_2 _ _) (KBc.meets_slice2 x.toArray t l (r2.part q1) (r3.part q2)) ⟨zO, ?_,fun t' k=> ?_⟩)⟩
   ·rw [e',fW,sizeLine_eq];have:=qY x Bj pk;exact Wl hz this
   ·rw [e'];exact gM S3 (.bytes _ _)
 ·refine(?_:lV _ _ _ _ _ _ _ _ _ (Dx Bj pk m3 (m3.ob i)));cases q3:m3.ob i with
  |list xs=>
   exact .ite fun hz=>by
    obtain⟨vs,ep,ho,rs⟩:=S3.lst hi q3;have hL:s3.heap.IsList (ρ3 i) vs.toArray:=⟨_,ho,rfl,_,rfl⟩;refine⟨_,"list.__getitem__",hL.typeIs,slot_list_getitem.lookup,aj (wpAny_getItem_list_slice hL zO (r2.part q1) (r3.part q2) .none (fun e=>nomatch e) ?_ (by rw [fW, <- rs.length,sizeLine_eq];exact Ha hz))⟩;rw [slicePick_plain];refine sW (K:=lu prog w g fk a_ s3 ρ3 m3 (.obj m3.n) (m3.new (.list (c8 xs Bj pk)))) (mo:= .list (c8 xs Bj pk)) (t:=s3.toks) S3 rfl (fun M=>⟨c8 vs Bj pk,0, ?_,(rs.cut Bj pk).mono M⟩) fun ρ' s' S' V'=>⟨ρ',S',V',.obj (gA _)⟩;simp only [c8,List.size_toArray]
  |ba x=>
   exact .ite fun hz=>by
    have ho:=S3.bar hi q3;refine⟨_,"bytearray.__getitem__",gi ho,BA.lT.lookup,aj (KC ho zO (r2.part q1) (r3.part q2) hz ?_)⟩;exact sW (K:=lu prog w g fk a_ s3 ρ3 m3 (.obj m3.n) (m3.new (.ba (c8 x Bj pk)))) (mo:= .ba (c8 x Bj pk)) (t:=s3.toks) S3 rfl (fun M=>rfl) fun ρ' s' S' V'=>⟨ρ',S',V',.obj (gA _)⟩
  |_=>exact True.intro
noncomputable def M8(cv cl ch:av->MM MV):av->MM MV:=fun fr=>MM.bind (cv fr) fun x=>MM.bind (cl fr) fun y=>MM.bind (ch fr) fun z=>tY x y z
theorem eA{v:Expr}{cv:av->MM MV}(hv:cD n sg v cv)(hl:xm n sg lo cl)(hh:xm n sg hi ch):
  cD n sg (.Subscript v (.Slice lo hi none p') p) (M8 cv cl ch):=by
 intro prog w A g env fr s ρ m hA S F;refine .bind fun x m1 e1=> .bind fun y m2 e2=> .bind fun z m3 e3=> .of fun b m' e=> ?_;refine jc ((hv _ _ A _ _ _ _ _ _ hA S F).step e1 fun a s1 ρ1 S1 V1 r1=> ?_);refine wA hl hh hA S1 (F.dP V1) e2 e3 fun ya za sl s3 ρ3 S3 V3 r2 r3 zO=> ?_;have h:=Qc (A:=A) (l:=sl) S3 (r1.mono V3.mono) r2 r3 zO;rw [e] at h;obtain⟨T,id,hT,hl,h⟩:=h;exact zL hT hl (au h (fun v s4 ⟨ρ4,S4,V4,r4⟩=>⟨ρ4,S4,(V1.comp V3).comp V4,r4⟩) fun ψ ψ f=>f) rfl
noncomputable def Dy(k:Int)(y:MV)(i:Nat)(m:MH):MO->Option (Unit×MH)
 | .ba b=>y.int?.bind fun v=>if 0<=k/\k<b.length/\b.length<=100000/\0<=v/\v<256/\i<m.n then some ((),m.set i (.ba (b.set k.toNat v.toNat.toUInt8))) else none
 | .dict es=>if es.length<=100000/\i<m.n then some ((),m.set i (.dict (BX k y es))) else none
 |_=>none
noncomputable def M_(x z y:MV):MM Unit:=fun m=>x.ig.bind fun i=>z.int?.bind fun k=>Dy k y i m (m.ob i)
theorem Qd{k:MV}{ka:Value}(S3:OK prog w g s3 ρ3 m3)(r2:a_ ρ3 m3.n s3.heap x xa)(r3:a_ ρ3 m3.n s3.heap k ka)(r1:a_ ρ3 m3.n s3.heap v va):
  Comes (fun ψ ψ ψ ψ ψ=>True) s3 ρ3 m3 prog w g A (M_ x k v m3) (setItem xa ka va):=by
 refine .opt fun j hx=> .opt fun kk hk=> ?_;obtain⟨hj,rfl⟩:=r2.ij hx;obtain⟨tk,rfl⟩:=r3.iD hk;refine(?_:Comes _ _ _ _ _ _ _ _ (Dy kk v j m3 (m3.ob j)) _);cases q1:m3.ob j with
 |ba bb=>
  exact .opt fun vv hv=> .ite fun hz=>by
   obtain⟨_,rfl⟩:=r1.iD hv;refine Qa (S3.bar hj q1) hz.1 hz.2.1 hz.2.2.1 hz.2.2.2.1 hz.2.2.2.2.1 fun h' hF hs=> ?_;have kp:∀a o,a≠ρ3 j->s3.heap.get? a=some o->h'.get? a=some o:=fun a o ha eo=>(hs.2 a ha).trans eo;exact⟨ρ3,S3.put (s':= {s3 with heap:=h'}) hj kp hF fun M=>rfl,.put S3 (s':= {s3 with heap:=h'}) hj kp ⟨_,hF⟩ rfl rfl,trivial⟩
 |dict es=>
  exact .ite fun hz=>by
   obtain⟨o,ho,r⟩:=S3.ob j hj;rw [q1] at r;obtain⟨hc,sd,kvs,hd,hr⟩:=r;have hD:s3.heap.DictOf (intKind prog w) (ρ3 j) kvs:=Heap.dictOf_iff.mpr ⟨o,ho,hd⟩;refine aj (wpAny_setItem_pairs (knd:=intKind prog w) (k:=kk) (hsz:=by rw [<- hr.length,sizeLine_eq];exact Wm hz) (by simp [intKind,Value.isInt]) hD fun h' hD' hs=> ?_);obtain⟨o',hF,Kj⟩:=Heap.dictOf_iff.mp hD';have kp:∀a o,a≠ρ3 j->s3.heap.get? a=some o->h'.get? a=some o:=fun a o ha eo=>(hs.2 a ha).trans eo;have adI:o'.cls= .type "dict":=by
    obtain⟨_,_,hx,_⟩:=Kj
    first|exact hx|exact hx.1|exact hx.2
   exact⟨ρ3,S3.put (s':= {s3 with heap:=h',toks:=s3.toks+1}) hj kp hF fun M=>⟨adI,sd,_,Kj,(hr.put r1).mono M⟩,.put S3 (s':= {s3 with heap:=h',toks:=s3.toks+1}) hj kp ⟨_,hF⟩ rfl rfl,trivial⟩
 |_=>exact True.intro
theorem wB{i:Expr}{ci:av->MM MV}(he:cD n sg e ce)(ho:cD n sg o co)(hi:cD n sg i ci)(hn:lP e=true):
  fX n sg (.Assign [.Subscript o i p] e p') (SM.use ce fun v=>SM.use co fun x=>SM.use ci fun k=>SM.act (M_ x k v)):=by
 intro prog w A g env fr s ρ m hA S F;refine .use fun v m1 e1=> .use fun x m2 e2=> .use fun k m3 e3=> .act fun u m4 e4=> ?_;refine lq ((he _ _ A _ _ _ _ _ _ hA S F).step e1 fun va s1 ρ1 S1 V1 r1=> ?_) (ku hn);refine(ho _ _ A _ _ _ _ _ _ hA S1 (F.dP V1)).step e2 fun xa s2 ρ2 S2 V2 r2=> ?_;refine(hi _ _ A _ _ _ _ _ _ hA S2 ((F.dP V1).dP V2)).step e3 fun ka s3 ρ3 S3 V3 r3=> ?_;exact(Qd S3 (r2.mono V3.mono) r3 ((r1.mono V2.mono).mono V3.mono)).step e4 fun ψ s4 ρ4 S4 V4 ψ=>⟨ρ4,S4,(((V1.comp V2).comp V3).comp V4).weak,.next,(F.dP ((V1.comp V2).comp V3)).dP V4⟩
noncomputable def Na(x y z v:MV):MM Unit:=fun m=>x.ig.bind fun i=>y.int?.bind fun a=>z.int?.bind fun b=>v.qn.bind fun x=>(m.ob i).Km.bind fun y=>
 if 0<=a/\a<=b/\b<=y.length/\x.length=b.toNat-a.toNat/\y.length<=100000/\i<m.n then some ((),m.set i (.ba (y.take a.toNat++x++y.drop b.toNat))) else none
theorem Nb{a b:MV}{aa bb:Value}(S3:OK prog w g s3 ρ3 m3)(r2:a_ ρ3 m3.n s3.heap x xa)(r3:a_ ρ3 m3.n s3.heap a aa)(r4:a_ ρ3 m3.n s3.heap b bb)(r1:a_ ρ3 m3.n s3.heap v va)
  (zO:s3.heap.IsSliceOf l aa bb .none):Comes (fun ψ ψ ψ ψ ψ=>True) s3 ρ3 m3 prog w g A (Na x a b v m3) (setItem xa (.ref l) va):=by
 refine .opt fun j hx=> .opt fun ka ha=> .opt fun kb hb=> .opt fun x hv=> .opt fun y q1=> .ite fun hz=> ?_;obtain⟨hj,rfl⟩:=r2.ij hx;obtain⟨_,rfl⟩:=r3.iD ha;obtain⟨_,rfl⟩:=r4.iD hb;obtain⟨_,rfl⟩:=r1.uX hv;obtain⟨st,rfl⟩:∃st:Nat,ka=st:=⟨ka.toNat,by exact WA hz⟩;obtain⟨en,rfl⟩:∃en:Nat,kb=en:=⟨kb.toNat,by exact WB hz⟩;refine Dv (S3.bar hj (MO.T8 q1)) zO (.int _ _) (.int _ _) (by exact WC hz) (by exact WD hz) (by simpa using hz.2.2.2.1) hz.2.2.2.2.1 fun h' hF hs=> ?_;exact⟨ρ3,S3.put (s':= {s3 with heap:=h'}) hj hs hF fun M=>rfl,.put S3 (s':= {s3 with heap:=h'}) hj hs ⟨_,hF⟩ rfl rfl,trivial⟩
theorem zP{p'':Pos}(he:cD n sg e ce)(ho:cD n sg o co)(hl:xm n sg lo cl)(hh:xm n sg hi ch)(hn:lP e=true):
  fX n sg (.Assign [.Subscript o (.Slice lo hi none p'') p] e p') (SM.use ce fun v=>SM.use co fun x=>SM.use cl fun a=>SM.use ch fun b=>SM.act (Na x a b v)):=by
 intro prog w A g env fr s ρ m hA S F;refine .use fun v m1 e1=> .use fun x m2 e2=> .use fun a m3 e3=> .use fun b m4 e4=> .act fun u m5 e5=> ?_;refine lq ((he _ _ A _ _ _ _ _ _ hA S F).step e1 fun va s1 ρ1 S1 V1 r1=> ?_) (ku hn);refine(ho _ _ A _ _ _ _ _ _ hA S1 (F.dP V1)).step e2 fun xa s2 ρ2 S2 V2 r2=> ?_;refine wA hl hh hA S2 ((F.dP V1).dP V2) e3 e4 fun aa bb sl s3 ρ3 S3 V3 r3 r4 zO=> ?_;exact(Nb S3 (r2.mono V3.mono) r3 r4 ((r1.mono V2.mono).mono V3.mono) zO).step e5 fun ψ s4 ρ4 S4 V4 ψ=>⟨ρ4,S4,(((V1.comp V2).comp V3).comp V4).weak,.next,(F.dP ((V1.comp V2).comp V3)).dP V4⟩
end
end
section
set_option backward.match.sparseCases false
variable {ρ:Nat->Addr}{n t:Nat}{h h':Heap}{xs:List MV}{vs:List Value}{f:Value}
noncomputable def intsOf:List MV->Option (List Int)
 | []=>some []
 |x::r=>x.int?.bind fun n=>(intsOf r).bind fun ns=>some (n::ns)
def Jt(vs:List Value)(ns:List Int):Prop:=∃ps:List (Int×Tok),vs=ps.map (fun p=>Value.int p.1 p.2)/\ps.map (·.1)=ns
theorem F2.ints(r:F2 (a_ ρ n h) xs vs):∀ {ns:List Int},intsOf xs=some ns->Jt vs ns:=by
 induction r with
 |nil=>exact fun e=>⟨[],rfl,dZ e⟩
 | @cons x v xs vs r _ ih=>
  intro ns e;obtain⟨k,hk,e⟩:=bj e;obtain⟨ms,hm,e⟩:=bj e;obtain⟨t,rfl⟩:=r.iD hk;obtain⟨ps,rfl,q⟩:=ih hm;exact⟨(k,t)::ps,rfl,(congrArg (k:: ·) q).trans (dZ e)⟩
theorem bI.ints{ns:List Int}(r:bI ρ n h xs vs)(e:intsOf xs=some ns):Jt vs ns:=r.f2.ints e
theorem IntsAre.wC:∀ps:List (Int×Tok),IntsAre (ps.map fun p=>Value.int p.1 p.2) (ps.map (·.1))
 | []=> .nil
 |p::r=> .cons _ _ (IntsAre.wC r)
theorem ur(ps:List (Int×Tok))(i:Nat):numAt ps.toArray i=(ps.map (·.1)).getD i 0:=by
 unfold numAt;rw [List.getElem?_toArray,pS,i_]
section
variable {prog:Program}{w:World}{g:Heap}{A:Around}{s s':Shared}{ρ ρ':Nat->Addr}{m m':MH}
theorem doneK{T:Addr->Prop}{b:MV}{v:Value}(S:OK prog w g s ρ m)(k:Sub s.heap h')(r:lr ρ m.n s.heap ρ m.n h'->a_ ρ m.n h' b v):lu prog w g T a_ s ρ m b m v {s with heap:=h',toks:=t}:=
 ⟨ρ,S.grow (s':= {s with heap:=h',toks:=t}) k,.grow (s':= {s with heap:=h',toks:=t}) k rfl rfl,r ⟨fun ψ ψ=>rfl,dT _,fun a o e ψ=>k a o e⟩⟩
theorem xp{o:Obj}{mo:MO}{a:Addr}(S:OK prog w g s ρ m)(k:Sub s.heap h')(ha:h'.get? a=some o)(hn:s.heap.get? a=none)
  (hr:lr ρ m.n s.heap (eP ρ m.n a) (m.n+1) h'->mR prog w (eP ρ m.n a) (m.n+1) h' m.n mo o):lu prog w g fk a_ s ρ m (.obj m.n) (m.new mo) (.ref a) {s with heap:=h',toks:=t}:=by
 have S':OK prog w g {s with heap:=h',toks:=t} ρ m:=S.grow (s':= {s with heap:=h',toks:=t}) k;have V:dh fk s ρ m {s with heap:=h',toks:=t} ρ m:= .grow (s':= {s with heap:=h',toks:=t}) k rfl rfl;refine⟨eP ρ m.n a,S'.new (a:=a) ha (S.pg hn) (S.lC hn) fun M=>hr ⟨fun i hi=>fC hi,Nat.le_succ _,fun b o e ψ=>k b o e⟩,V.v8 hn, ?_⟩;have:=a_.obj (ρ:=eP ρ m.n a) (n:=m.n+1) (h:=h') (i:=m.n) (gA _);rw [ei] at this;exact this
end
noncomputable def se(c:MV->MM MV):List MV->MM MV
 | [x]=>c x
 |_=>MM.fail
noncomputable def yd(c:MV->MV->MM MV):List MV->MM MV
 | [x,y]=>c x y
 |_=>MM.fail
theorem zQ{c:MV->MM MV}(h:∀(prog:Program) (w:World) (A:Around) (g:Heap) (s:Shared) (ρ:Nat->Addr) (m:MH) (x:MV) (v:Value),dj 0 A->OK prog w g s ρ m->a_ ρ m.n s.heap x v->Comes a_ s ρ m prog w g A (c x m) (call f [v])):dW 0 f (se c):=by
 intro prog w A g s ρ m xs vs hA S r;refine r.casesOn True.intro (fun r rs=> ?_)
 ·cases rs with
  |cons _ _=>exact True.intro
  |nil=>exact h _ _ _ _ _ _ _ _ _ hA S r
theorem Ig{c:MV->MV->MM MV}(h:∀(prog:Program) (w:World) (A:Around) (g:Heap) (s:Shared) (ρ:Nat->Addr) (m:MH) (x y:MV) (v u:Value),dj 0 A->OK prog w g s ρ m->a_ ρ m.n s.heap x v->a_ ρ m.n s.heap y u->Comes a_ s ρ m prog w g A (c x y m) (call f [v,u])):dW 0 f (yd c):=by
 intro prog w A g s ρ m xs vs hA S r;cases r with
 |nil=>exact True.intro
 |cons r rs=>
  cases rs with
  |nil=>exact True.intro
  |cons r2 rs=>
   cases rs with
   |cons _ _=>exact True.intro
   |nil=>exact h _ _ _ _ _ _ _ _ _ _ _ hA S r r2
noncomputable def uu(m:MH):MO->Option (MV×MH)
 | .list xs=>if xs.length<=100000 then some (.int xs.length,m) else none
 | .ba b=>if b.length<=100000 then some (.int b.length,m) else none
 | .tL k=>if k<=100000 then some (.int k,m) else none
 |_=>none
noncomputable def UD(x:MV):MM MV:=fun m=>match x with
 | .obj i=>uu m (m.ob i)
 | .bytes b=>if b.length<=100000 then some (.int b.length,m) else none
 | .tup xs=>if xs.length<=100000 then some (.int xs.length,m) else none
 |_=>none
noncomputable def vq:List MV->MM MV:=se UD
theorem ey:dW 0 (.builtin "len") vq:=zQ fun prog w A g s ρ m x v hA S r=>by
 refine r.casesOn True.intro (fun ψ=>True.intro) (fun ψ ψ=>True.intro) (fun ψ ψ=>True.intro) (fun bb t=> ?_) (@fun ys us a ep ha rs=> ?_) (fun ψ=>True.intro) (@fun i hi=> ?_) (fun ψ=>True.intro)
 ·exact .ite fun hz=>by
   refine aj (len_bytes (by rw [fW];exact aca hz) ?_);rw [fW];exact gM S (.int _ _)
 ·exact .ite fun hz=>by
   refine aj (P.len_tuple (t:=a) ha (by rw [fW, <- rs.length];exact RS hz) ?_);rw [fW, <- rs.length];exact gM S (.int _ _)
 ·refine(?_:Comes _ _ _ _ _ _ _ _ (uu m (m.ob i)) _);cases q:m.ob i with
  |list ys=>
   exact .ite fun hz=>by
    obtain⟨us,ep,ho,rs⟩:=S.lst hi q;refine aj (call_len_list (items:=us.toArray) ⟨_,ho,rfl,_,rfl⟩ (by rw [fW, <- rs.length];exact Pm hz) ?_);rw [fW, <- rs.length];exact gM S (.int _ _)
  |ba bb=>
   exact .ite fun hz=>by
    refine aj (P_ (S.bar hi q) (by simpa using hz) ?_);rw [fW];exact gM S (.int _ _)
  |tL k=>
   exact .ite fun hz=>by
    obtain⟨o,ho,r⟩:=S.ob i hi;rw [q] at r;obtain⟨hex,es,ep,t,hd,hf,rfl⟩:=r;exact aj (call_len_set ho hex hd hf (by exact Pm hz) (gM S (.int _ _)))
  |_=>exact True.intro
noncomputable def yC:List MV->MM MV
 | [y]=>fun m=>y.int?.bind fun b=>some (.oz 0 b,m)
 | [x,y]=>fun m=>x.int?.bind fun a=>y.int?.bind fun b=>some (.oz a b,m)
 |_=>MM.fail
theorem kD:dW 0 (.type "range") yC:=by
 intro prog w A g s ρ m xs vs hA S r;cases r with
 |nil=>exact True.intro
 |cons r rs=>
  cases rs with
  |nil=>
   exact .opt fun b hb=>by
    obtain⟨_,rfl⟩:=r.iD hb;exact aj (call_range_1 (doneK S (fun a o e=>gS _ e) fun ψ=> .oz (iQ _ rfl)))
  |cons r2 rs=>
   cases rs with
   |cons _ _=>exact True.intro
   |nil=>
    exact .opt fun a ha=> .opt fun b hb=>by
     obtain⟨_,rfl⟩:=r.iD ha;obtain⟨_,rfl⟩:=r2.iD hb;exact aj (call_range_2 (doneK S (fun a o e=>gS _ e) fun ψ=> .oz (iQ _ rfl)))
noncomputable def Nc(x:MV):MM MV:=fun m=>x.uW.bind fun x=>if x.cps.size=1 then some (.int (x.cps.getD 0 0:Nat),m) else none
theorem Qe:dW 0 (.builtin "ord") (se Nc):=zQ fun prog w A g s ρ m x v hA S r=> .opt fun x hx=> .ite fun hz=>by
 obtain⟨t,rfl⟩:=r.w9 hx;obtain⟨cps⟩:=x;obtain⟨c,rfl⟩:∃c,cps= #[c]:=Array.size_eq_one_iff.mp hz;exact aj (P.ord_of_char (gM S (.int _ _)))
noncomputable def Sn(x:MV):MM MV:=fun m=>x.int?.bind fun i=>if 0<=i/\i<=0x10FFFF then some (.str ⟨#[i.toNat]⟩,m) else none
theorem Qf:dW 0 (.builtin "chr") (se Sn):=zQ fun prog w A g s ρ m x v hA S r=> .opt fun i hi=> .ite fun hz=>by
 obtain⟨t,rfl⟩:=r.iD hi;exact aj (P.chr_of_int (by rw [decide_eq_false (by exact acb hz),decide_eq_false (by exact acd hz)];rfl) (gM S (.str _ _)))
noncomputable def UE(x y:MV):MM MV:=fun m=>x.int?.bind fun a=>y.int?.bind fun b=>some (.int (if b>a then b else a),m)
noncomputable def UG(x y:MV):MM MV:=fun m=>x.int?.bind fun a=>y.int?.bind fun b=>some (.int (if b<a then b else a),m)
noncomputable def iV:List Int->Int
 | []=>0
 | [a]=>a
 |a::r=>max a (iV r)
noncomputable def Ih(m:MH):Option (List Int)->Option (MV×MH)
 |some (n::ns)=>some (.int (iV (n::ns)),m)
 |_=>none
noncomputable def Nd:List MV->MM MV
 | [x,y]=>UE x y
 | [x]=>fun m=>x.ig.bind fun i=>(m.ob i).gQ.bind fun xs=>Ih m (intsOf xs)
 |_=>MM.fail
theorem Dz:dW 0 (.builtin "min") (yd UG):=Ig fun prog w A g s ρ m x y v u hA S r r2=> .opt fun a ha=> .opt fun b hb=>by
 obtain⟨t,rfl⟩:=r.iD ha;obtain⟨u,rfl⟩:=r2.iD hb;refine aj (min_two_ints hA.2.2 fun h' tk hk=>doneK S hk fun ψ=> ?_)
 split <;> exact .int _ _
noncomputable def DA(x:MV):MM MV:=fun m=>match x with
 | .obj i=>(m.ob i).gQ.bind fun xs=>if xs.length<=100000 then some (.obj m.n,m.new (.list xs)) else none
 | .tup xs=>if xs.length<=100000 then some (.obj m.n,m.new (.list xs)) else none
 |_=>none
theorem Fv:dW 0 (.type "list") (se DA):=zQ fun prog w A g s ρ m x v hA S r=>by
 refine r.casesOn True.intro (fun ψ=>True.intro) (fun ψ ψ=>True.intro) (fun ψ ψ=>True.intro) (fun ψ ψ=>True.intro) (fun ha rs=> ?_) (fun ψ=>True.intro) (@fun i hi=> ?_) (fun ψ=>True.intro)
 ·exact .ite fun hz=>by
   refine aj (call_list_seq (T:="tuple") _ (.inr rfl) ha rfl rfl (fun h' c hk hD=> ?_) (by rw [fW, <- rs.length,sizeLine_eq];exact Ha hz));exact xp (t:=s.toks) S hk hD (cA _) fun M=>⟨_,_,rfl,rs.mono M⟩
 ·exact .opt fun xs q=> .ite fun hz=>by
   obtain⟨us,ep,ho,rs⟩:=S.lst hi (MO.jN q);refine aj (call_list_seq (T:="list") (ρ i) (.inl rfl) ho rfl rfl (fun h' c hk hD=> ?_) (by rw [fW, <- rs.length,sizeLine_eq];exact Ha hz));exact xp (t:=s.toks) S hk hD (cA _) fun M=>⟨_,_,rfl,rs.mono M⟩
noncomputable def Ju(x:MV):MM MV:=fun m=>x.ig.bind fun i=>(m.ob i).gQ.bind fun xs=>if xs.length<=100000 then some (.tup xs,m) else none
theorem sY:dW 0 (.type "tuple") (se Ju):=zQ fun prog w A g s ρ m x v hA S r=> .opt fun i hi=> .opt fun xs q=> .ite fun hz=>by
 obtain⟨hi,rfl⟩:=r.ij hi;obtain⟨us,ep,ho,rs⟩:=S.lst hi (MO.jN q);refine aj (call_tuple_list (items:=us.toArray) ⟨_,ho,rfl,_,rfl⟩ (fun h' hk=> ?_) (by rw [fW, <- rs.length,sizeLine_eq];exact Ha hz));have hs:Sub s.heap (h'.push (tM us 0)):=fun a o e=>gS _ (hk a o e);exact doneK (t:=s.toks) S hs fun M=> .tup (e:=0) (iQ _ rfl) (rs.mono M)
end
section
set_option backward.match.sparseCases false
noncomputable def Fw(ns:List Int):List UInt8:=ns.map fun n=>n.toNat.toUInt8
noncomputable def p9(m:MH):MO->Option (MV×MH)
 | .ba b=>if b.length<=100000 then some (.bytes b,m) else none
 | .list xs=>(intsOf xs).bind fun ns=>if ns.length<=100000/\(∀n∈ns,0<=n/\n<256) then some (.bytes (Fw ns),m) else none
 |_=>none
noncomputable def oS(x:MV):MM MV:=fun m=>match x with
 | .bytes b=>some (.bytes b,m)
 | .int n=>if 0<=n/\n<=100000 then some (.bytes (List.replicate n.toNat 0),m) else none
 | .obj i=>p9 m (m.ob i)
 |_=>none
theorem ju:dW 0 (.type "bytes") (se oS):=zQ fun prog w A g s ρ m x v hA S r=>by
 refine r.casesOn True.intro (fun ψ=>True.intro) (fun k t=> ?_) (fun ψ ψ=>True.intro) (fun bb t=>aj (rX fun A E=>wq ⟨_,_,rfl,ρ,S,.refl,.bytes _ _⟩)) (fun ψ ψ=>True.intro) (fun ψ=>True.intro) (@fun i hi=> ?_) (fun ψ=>True.intro)
 ·exact .ite fun hz=>by
   obtain⟨n,rfl⟩:∃n:Nat,k=n:=⟨k.toNat,by exact Q_ hz⟩;obtain⟨x,hx⟩:∃x,x=Value.int (n:Int) t:=⟨_,rfl⟩;rw [<- hx];refine aj (rX fun A E=>zB hx (by exact Ra hz) fun t' kk=>⟨_,_,rfl, ?_⟩);have:=gM (t:=kk) (T:=fk) (v:= .bytes (List.replicate n 0).toArray t') S (.bytes (List.replicate n 0) t');rw [List.toArray_replicate] at this;exact this
 ·refine(?_:Comes _ _ _ _ _ _ _ _ (p9 m (m.ob i)) _);cases q:m.ob i with
  |ba bb=>exact .ite fun hz=>aj (rX fun A E=>Ba (S.bar hi q) rfl rfl (by simpa using hz) fun t' kk=>⟨_,_,rfl,gM S (.bytes _ _)⟩)
  |list xs=>
   exact .opt fun ns q2=> .ite fun hz=>by
    obtain⟨us,ep,ho,rs⟩:=S.lst hi q;obtain⟨ps,rfl,rfl⟩:=rs.ints q2;refine aj (call_bytes_ints (ns:=ps.map (·.1)) ⟨_,ho,rfl,_,rfl⟩ (IntsAre.wC ps) hz.2 (by rw [eW,sizeLine_eq];have:=hz.1;rw [eW] at this;exact Ha this) hA.2.2 fun h' t kk hk=> ?_);exact doneK S hk fun ψ=> .bytes (Fw (ps.map (·.1))) t
  |_=>exact True.intro
noncomputable def mBa:List MV->MM MV
 | []=>fun m=>some (.obj m.n,m.new (.ba []))
 | [x]=>fun m=>x.int?.bind fun n=>if 0<=n/\n<=100000 then some (.obj m.n,m.new (.ba (List.replicate n.toNat 0))) else none
 |_=>MM.fail
theorem Nf:dW 0 (.type "bytearray") mBa:=by
 intro prog w A g s ρ m xs vs hA S r;cases r with
 |nil=>exact KD fun h' hF hk=>xp (t:=s.toks) S hk hF (cA _) fun M=>rfl
 |cons r rs=>
  cases rs with
  |cons _ _=>exact True.intro
  |nil=>
   exact .opt fun k hk=> .ite fun hz=>by
    obtain⟨t,rfl⟩:=r.iD hk;obtain⟨n,rfl⟩:∃n:Nat,k=n:=⟨k.toNat,by exact Q_ hz⟩;exact Du (by exact Ra hz) fun h' hF hk=>xp (t:=s.toks) S hk hF (cA _) fun M=>rfl
noncomputable def Jv(x:MV):MM MV:=fun m=>match x with
 | .obj i=>(m.ob i).gQ.bind fun xs=>(intsOf xs).bind fun ns=>if(∀n∈ns,0<=n)/\ns.sum<2 ^ 62 then some (.int ns.sum,m) else none
 | .bytes b=>if b.length<=100000 then some (.int (b.map fun c=>(c.toNat:Int)).sum,m) else none
 |_=>none
theorem oT:∀ {ns:List Int},(∀n∈ns,0<=n)->0<=ns.sum
 | [],_=>by simp
 |n::ns,h=>by
  rw [List.sum_cons];have:=h n (.head _);have:=oT fun m hm=>h m (.tail _ hm);exact W3 (by assumption) this
theorem Ng:∀ {ns:List Int} (k:Nat),(∀n∈ns,0<=n)->0<=(ns.take k).sum/\(ns.take k).sum<=ns.sum:=fun {ns} k h=>by
 have h1:=oT (ns:=ns.take k) fun n hn=>h n (List.mem_of_mem_take hn);have h2:=oT (ns:=ns.drop k) fun n hn=>h n (List.mem_of_mem_drop hn);have h3:ns.sum=(ns.take k).sum+(ns.drop k).sum:=by rw [<- List.sum_append,List.take_append_drop]
 exact W4 h1 h2 h3
theorem Fx:∀ {ns:List Int} {n:Int},(∀n∈ns,0<=n)->n∈ns->n<=ns.sum
 |m::ns,n,h,hn=>by
  rw [List.sum_cons];have:=h m (.head _);have h2:=oT fun m hm=>h m (.tail _ hm);rcases List.mem_cons.mp hn with rfl|hn
  ·exact W5 h2
  ·have:=Fx (fun m hm=>h m (.tail _ hm)) hn;exact W6 (by assumption) this
theorem qA(ks:List Int):∀i:Nat,i<=ks.length->preSum (fun j=>ks.getD j 0) i=(ks.take i).sum:=KBmo.pre_take ks
theorem zR{ns:List Int}(h:∀n∈ns,0<=n)(hz:ns.sum<2 ^ 62):∀j,j<ns.length->InLong (ns.getD j 0)/\InLong (preSum (fun j=>ns.getD j 0) (j+1)):=fun j hj=>by
 rw [qA ns (j+1) hj];have h1:=Ng (j+1) h;have hm:ns.getD j 0∈ns:=by rw [pS,iP hj];exact List.getElem_mem hj
 have h2:=Fx h hm;have h3:=h _ hm;exact W7 hz h1 h2 h3
theorem tZ:∀b:List UInt8,(b.map fun c=>(c.toNat:Int)).sum<=255*b.length
 | []=>by simp
 |c::r=>by
  have:=tZ r;have:=c.toNat_lt;exact W8 (by assumption) this
theorem DB:dW 0 (.builtin "sum") (se Jv):=zQ fun prog w A g s ρ m x v hA S r=>by
 refine r.casesOn True.intro (fun ψ=>True.intro) (fun ψ ψ=>True.intro) (fun ψ ψ=>True.intro) (fun bb t=> ?_) (fun ψ ψ=>True.intro) (fun ψ=>True.intro) (@fun i hi=> ?_) (fun ψ=>True.intro)
 ·refine .ite fun hz=> ?_;have hnn:∀n∈(bb.map fun c=>(c.toNat:Int)),0<=n:=fun n hn=>by
   obtain⟨c,_,rfl⟩:=List.mem_map.mp hn;exact O2
  have hle:=tZ bb;refine aj (call_sum_walk (KBw.pyIter_bytes ?_));have W:=KBw.walks (prog:=prog) (w:=w) (A:=A.in1) hA.2.2 s.heap.objs.size bb.toArray t;refine⟨s.heap.objs.size, [s.heap.objs.size], [s.heap.objs.size],bb.toArray.size,_,_,fun j=>(bb.map fun c=>(c.toNat:Int)).getD j 0,rfl,W,⟨_,iQ _ rfl,rfl,rfl⟩, ?_, ?_, ?_, ?_⟩
  ·intro a ha;rw [List.mem_singleton.mp ha,Heap.size_push];exact gA _
  ·rintro i v ⟨c,u,hc,rfl⟩;have Hw:bb[i]? =some c:=by simpa using hc
   exact⟨u,by simp [List.getD_eq_getElem?_getD,Hw]⟩
  ·intro j hj;exact zR hnn (by exact W9 hz hle) j (by simpa using hj)
  ·intro h' tk t' hk;rw [List.size_toArray,qA _ _ (by simp),List.take_of_length_le (by simp)];exact doneK S (fun a o e=>hk a o (fun hm=>by rw [List.mem_singleton.mp hm,cA] at e;cases e) (gS _ e)) fun ψ=> .int _ _
 ·refine .opt fun xs q=> .opt fun ns q2=> .ite fun hz=> ?_;obtain⟨us,ep,ho,rs⟩:=S.lst hi (MO.jN q);obtain⟨ps,rfl,rfl⟩:=rs.ints q2;have hn:numAt ps.toArray=fun j=>(ps.map (·.1)).getD j 0:=funext fun j=>ur ps j;have hL:s.heap.IsList (ρ i) (intItems ps.toArray):=⟨_,ho,rfl,ep,by simp [intItems]⟩;refine aj (sum_intList hA.2.2 hL (fun j hj=> ?_) fun h' tk t' hk=> ?_)
  ·rw [hn];exact zR hz.1 hz.2 j (by simpa using hj)
  ·rw [hn,List.size_toArray,qA _ _ (by simp),List.take_of_length_le (by simp)];exact doneK S hk fun ψ=> .int _ _
noncomputable def UH(x:MV)(T:String)(m:MH):Option Bool:=match x with
 | .tup _=>if T="tuple" then some true else none
 | .int _=>if T="int" then some true else if T="bool" then some false else none
 | .obj i=>(m.ob i).gQ.bind fun ψ=>if T="list" then some true else none
 |_=>none
noncomputable def So:Value->Option String
 | .type T=>some T
 |_=>none
noncomputable def t5(x y:MV):MM MV:=fun m=>y.Py.bind fun u=>(So u).bind fun T=>(UH x T m).bind fun b=>some (.bool b,m)
theorem Ii{u:Value}{T:String}(e:So u=some T):u= .type T:=by
 cases u with
 |type U=>exact congrArg _ (dZ e)
 |_=>exact cj e
theorem sZ:dW 0 (.builtin "isinstance") (yd t5):=Ig fun prog w A g s ρ m x y v u hA S r r2=> .opt fun u' h1=> .opt fun T h2=> .opt fun b h3=>by
 have h1:=r2.rj h1;rw [Ii h2] at h1;subst h1;cases r with
 |tup ha rs=>
  by_cases q:T="tuple"
  ·subst q;cases h3;exact aj (IsiPair.tuple_tuple ha rfl ⟨ρ,S,.refl,.bool _⟩)
  ·exact cj (b:=b) ((if_neg q).symm.trans h3)
 |int=>
  by_cases q:T="int"
  ·subst q;cases h3;exact aj (IsiPair.int_int ⟨ρ,S,.refl,.bool _⟩)
  ·have h3:=(if_neg q).symm.trans h3
   by_cases q:T="bool"
   ·subst q;cases h3;exact aj (IsiPair.int_bool (gM S (.bool _)))
   ·exact cj (b:=b) ((if_neg q).symm.trans h3)
 |obj hi=>
  obtain⟨xs,q,h3⟩:=bj h3;obtain⟨us,ep,ho,rs⟩:=S.lst hi (MO.jN q)
  by_cases q:T="list"
  ·subst q;cases h3;exact aj (IsiPair.list_list ho rfl ⟨ρ,S,.refl,.bool _⟩)
  ·exact cj (b:=b) ((if_neg q).symm.trans h3)
 |_=>exact cj h3
end
section
set_option backward.match.sparseCases false
variable {xs:List MV}{vs:List Value}{x y:MV}{a b v:Value}{d:PyData}{z:Bool}{ρ:Nat->Addr}
mutual
noncomputable def dataOf:MV->Option PyData
 | .none=>some .none
 | .bool b=>some (.bool b)
 | .int k=>some (.int k)
 | .str x=>some (.str x)
 | .tup xs=>(nT xs).bind fun ds=>some (.tuple ds)
 |_=>none
noncomputable def nT:List MV->Option (List PyData)
 | []=>some []
 |x::r=>(dataOf x).bind fun d=>(nT r).bind fun ds=>some (d::ds)
end
section
variable {ρ:Nat->Addr}{n:Nat}{h:Heap}
def Fy(h:Heap)(x:MV)(v:Value):Prop:=∀d,dataOf x=some d->∃as,Reads h v d as
def KG(h:Heap)(x:List MV)(v:List Value):Prop:=∀d,nT x=some d->∃as,ReadsAll h v d as
theorem Fy.tup{a:Addr}{e:Nat}(ha:h.get? a=some (tM vs e))(ih:KG h xs vs):Fy h (.tup xs) (.ref a):=fun d q=>by
 obtain⟨ds,q,e⟩:=bj q;obtain⟨as,ra⟩:=ih ds q;exact(Option.some.inj e:_=d)▸⟨_,.tuple ha rfl rfl (by simpa using ra)⟩
theorem KG.cons(ha:Fy h x v)(hb:KG h xs vs):KG h (x::xs) (v::vs):=fun d q=>by
 obtain⟨d',q1,q⟩:=bj q;obtain⟨ds,q2,e⟩:=bj q;obtain⟨as,ra⟩:=ha _ q1;obtain⟨bs,rb⟩:=hb _ q2;exact(dZ e:_=d)▸⟨_,.cons ra rb⟩
theorem Fy.of{as:List Addr}(e:dataOf x=some d)(r:Reads h v d as):Fy h x v:=fun ψ q=>dZ (e.symm.trans q)▸⟨_,r⟩
theorem Fy.none(e:dataOf x=Option.none):Fy h x v:=fun ψ q=>cj (e.symm.trans q)
theorem a_.reads(r:a_ ρ n h x v):dataOf x=some d->∃as,Reads h v d as:=
 a_.rec (motive_1:=fun x v ψ=>Fy h x v) (motive_2:=fun x v ψ=>KG h x v) (.of rfl .none) (fun ψ=> .of rfl (.bool _)) (fun ψ ψ=> .of rfl (.int _ _)) (fun ψ ψ=> .of rfl (.str _ _)) (fun ψ ψ=> .none rfl)
  (fun ha ψ ih=> .tup ha ih) (fun ψ=> .none rfl) (fun ψ=> .none rfl) (fun ψ=> .none rfl) (fun d q=>dZ q▸⟨_,.nil⟩) (fun ψ ψ a b=> .cons a b) r d
theorem bI.reads{x:List MV}{v:List Value}(r:bI ρ n h x v):KG h x v:=by
 have q:=r.f2;clear r
 induction q with
 |nil=>exact fun d q=>dZ q▸⟨_,.nil⟩
 |cons a _ ih=>exact .cons (fun ψ=>a.reads) ih
end
noncomputable def zS(d e:Option PyData):Option Bool:=d.bind fun d=>e.bind fun e=>if d.canLay0&&e.canLay0&&decide (min d.depth e.depth<=10) then some (PyData.eqv d e) else none
noncomputable def pC(m:MH)(i:Nat):Option PyData:=(m.ob i).gQ.bind fun xs=>(nT xs).bind fun ds=>some (.list ds)
noncomputable def Sq(x y:MV)(m:MH):Option Bool:=match x with
 | .int a=>(y.int?.bind fun b=>some (a==b)).or (zS (dataOf x) (dataOf y))
 | .str a=>(y.uW.bind fun b=>some (a==b)).or (zS (dataOf x) (dataOf y))
 | .bytes a=>y.qn.bind fun b=>some (a==b)
 | .obj i=>y.ig.bind fun j=>(m.ob i).gQ.bind fun xs=>(m.ob j).gQ.bind fun ys=>if xs.length=ys.length then zS (pC m i) (pC m j) else some false
 |_=>zS (dataOf x) (dataOf y)
noncomputable def vr(x y:MV):MM Bool:=fun m=>(Sq x y m).bind fun b=>some (b,m)
noncomputable def mNe(x y:MV):MM Bool:=MM.bind (vr x y) fun b=>MM.ret (!b)
section
variable {prog:Program}{w:World}{g:Heap}{A:Around}{s s':Shared}{ρ ρ':Nat->Addr}{m m':MH}
theorem OK.pC(S:OK prog w g s ρ m){i:Nat}(hi:i<m.n)(e:pC m i=some d):∃as,Reads s.heap (.ref (ρ i)) d as:=by
 obtain⟨xs,q,e⟩:=bj e;obtain⟨ds,q2,e⟩:=bj e;obtain⟨vs,ep,ho,rs⟩:=S.lst hi (MO.jN q);obtain⟨as,ra⟩:=rs.reads _ q2;exact(Option.some.inj e:_=d)▸⟨_,.list ho rfl rfl (by simpa using ra)⟩
def Nh(prog:Program)(w:World)(A:Around)(o o':CmpOp)(a b:Value)(s:Shared)(z:Bool):Prop:=
 (∀Q:Value->Shared->Prop,Q (.bool z) s->wpAny (model prog w) A (compareOp o a b) Q cX s)/\(∀Q:Value->Shared->Prop,Q (.bool (!z)) s->wpAny (model prog w) A (compareOp o' a b) Q cX s)
theorem yD(hA:dj 0 A){d f:Option PyData}(h:zS d f=some z)(hd:∀q,d=some q->∃as,Reads s.heap a q as)(hf:∀q,f=some q->∃as,Reads s.heap b q as):Nh prog w A .Eq .NotEq a b s z:=by
 have hu:=hA.2.1;obtain⟨d',h1,h⟩:=bj h;obtain⟨f',h2,h⟩:=bj h;obtain⟨c,rfl⟩:=ky h;rw [Bool.and_eq_true,Bool.and_eq_true,decide_eq_true_eq] at c;obtain⟨_,ra⟩:=hd _ h1;obtain⟨_,rb⟩:=hf _ h2;have c3:=c.2;exact⟨fun Q q=>SeqAt.compareEq_reads ra rb c.1.1 c.1.2 (by exact RG hu c3) q,fun Q q=>SeqAt.compareNe_reads ra rb c.1.1 c.1.2 (by exact RG hu c3) q⟩
theorem or_some{α:Type}{o p:Option α}{z:α}(h:o.or p=some z):o=some z\/p=some z:=by
 cases o with
 |none=>exact .inr h
 |some x=>exact .inl h
theorem rcs(hA:dj 0 A)(S:OK prog w g s ρ m)(rx:a_ ρ m.n s.heap x a)(ry:a_ ρ m.n s.heap y b)(e:Sq x y m=some z):Nh prog w A .Eq .NotEq a b s z:=by
 have hu:=hA.2.1;have UI:=fun q=>rx.reads (d:=q);have UJ:=fun q=>ry.reads (d:=q);cases rx with
 |int k t=>
  rcases or_some e with e|e
  ·obtain⟨j,hj,e⟩:=bj e;obtain⟨u,rfl⟩:=ry.iD hj;obtain rfl:_=z:=dZ e;exact⟨fun Q q=>eq_int q,fun Q q=>ne_int q⟩
  ·exact yD hA e UI UJ
 |str k t=>
  rcases or_some e with e|e
  ·obtain⟨j,hj,e⟩:=bj e;obtain⟨u,rfl⟩:=ry.w9 hj;obtain rfl:_=z:=dZ e;exact⟨fun Q q=>eq_str q,fun Q q=>ne_str q⟩
  ·exact yD hA e UI UJ
 |bytes k t=>
  obtain⟨j,hj,e⟩:=bj e;obtain⟨u,rfl⟩:=ry.uX hj;obtain rfl:_=z:=dZ e;exact⟨fun Q q=>eq_bytes (by simpa using q),fun Q q=>ne_bytes (by simpa [bne] using q)⟩
 |obj hi=>
  obtain⟨j,hj,e⟩:=bj e;obtain⟨hj,rfl⟩:=ry.ij hj;obtain⟨xs,q1,e⟩:=bj e;obtain⟨ys,q2,e⟩:=bj e
  split at e
  ·exact yD hA e (fun q h=>S.pC hi h) fun q h=>S.pC hj h
  ·rename_i hl;obtain rfl:_=z:=dZ e;obtain⟨vs,ep,h1,r1⟩:=S.lst hi (MO.jN q1);obtain⟨us,CT,h2,r2⟩:=S.lst hj (MO.jN q2);have hsz:(vs.toArray.size != us.toArray.size)=true:=by
    rw [bne_iff_ne,fW,fW, <- r1.length, <- r2.length];exact hl
   exact⟨fun Q q=>SeqAt.RcAt.lists_lengths ⟨_,h1,rfl,_,rfl⟩ ⟨_,h2,rfl,_,rfl⟩ hsz (by exact RH hu) _ _ _ _ q,fun Q q=>SeqAt.RcNeAt.lists_lengths ⟨_,h1,rfl,_,rfl⟩ ⟨_,h2,rfl,_,rfl⟩ hsz (by exact RH hu) _ _ _ _ q⟩
 |_=>exact yD hA e UI UJ
end
theorem eT:jd .Eq vr:=fun prog w A g s ρ m x y a b hA S rx ry=> .opt fun z e=>aj ((rcs hA S rx ry e).1 _ ⟨ρ,S,.refl,rfl⟩)
theorem jh:jd .NotEq mNe:=fun prog w A g s ρ m x y a b hA S rx ry=> .bind fun z m1 e=>by
 obtain⟨z',e',q⟩:=bj e;have q:=Prod.mk.inj (dZ q);obtain⟨rfl,rfl⟩:=q;exact aj ((rcs hA S rx ry e').2 _ ⟨ρ,S,.refl,rfl⟩)
noncomputable def isNone(x:MV):Option Bool:=match x with
 | .none=>some true
 | .fn _=>none
 |_=>some false
noncomputable def Sr(x y:MV):Option Bool:=match y with
 | .none=>isNone x
 | .obj j=>x.ig.bind fun i=>some (i==j)
 |_=>none
noncomputable def Fz(x y:MV):MM Bool:=fun m=>(Sr x y).bind fun b=>some (b,m)
theorem a_.isNone{n:Nat}{h:Heap}(r:a_ ρ n h x a)(e:isNone x=some z):(a= .none/\z=true)\/(a≠ .none/\z=false):=
 r.casesOn (motive_1:=fun y b ψ=>Mine.isNone y=some z->(b= .none/\z=true)\/(b≠ .none/\z=false)) (fun e=> .inl ⟨rfl,(dZ e).symm⟩) (fun ψ e=> .inr ⟨nofun,(dZ e).symm⟩) (fun ψ ψ e=> .inr ⟨nofun,(dZ e).symm⟩) (fun ψ ψ e=> .inr ⟨nofun,(dZ e).symm⟩) (fun ψ ψ e=> .inr ⟨nofun,(dZ e).symm⟩) (fun ψ ψ e=> .inr ⟨nofun,(dZ e).symm⟩) (fun ψ e=> .inr ⟨nofun,(dZ e).symm⟩) (fun ψ e=> .inr ⟨nofun,(dZ e).symm⟩) (fun ψ=>cj) e
theorem Jw{prog:Program}{w:World}{g:Heap}{A:Around}{s:Shared}{m:MH}(S:OK prog w g s ρ m)(rx:a_ ρ m.n s.heap x a)(ry:a_ ρ m.n s.heap y b)(e:Sr x y=some z):Nh prog w A .Is .IsNot a b s z:=by
 cases ry with
 |none=>
  rcases rx.isNone e with⟨rfl,rfl⟩|⟨h,rfl⟩
  ·exact⟨fun Q q=>is_none_none q,fun Q q=>isnot_none_none q⟩
  ·exact⟨fun Q q=>is_none_ne h q,fun Q q=>isnot_none_ne h q⟩
 | @obj j hj=>
  obtain⟨i,hi,e⟩:=bj e;obtain⟨hi,rfl⟩:=rx.ij hi;obtain rfl:_=z:=dZ e
  by_cases h:i=j
  ·subst h;rw [beq_self_eq_true];exact⟨fun Q q=>wpAny_is_ref_self q,fun Q q=>wpAny_isNot_ref_self q⟩
  ·rw [beq_eq_false_iff_ne.mpr h];obtain⟨o1,a1,b1⟩:=S.ob i hi;obtain⟨o2,a2,b2⟩:=S.ob j hj;have iZ:ρ i≠ρ j:=fun q=>h (S.inj i j hi hj q);have hnt:o1.cls≠ .type "tuple":=by
    rcases b1.cls with q|q|q|q|⟨C,q⟩ <;> rw [q] <;> simp
   exact⟨fun Q q=>wpAny_is_ref_other iZ a1 a2 hnt q,fun Q q=>wpAny_isNot_ref_other iZ a1 a2 hnt q⟩
 |_=>exact cj e
theorem Ij:jd .Is Fz:=fun prog w A g s ρ m x y a b hA S rx ry=> .opt fun z e=>aj ((Jw S rx ry e).1 _ ⟨ρ,S,.refl,rfl⟩)
noncomputable def Jx(x y:MV):MM Bool:=MM.bind (Fz x y) fun b=>MM.ret (!b)
theorem nE:jd .IsNot Jx:=fun prog w A g s ρ m x y a b hA S rx ry=> .bind fun z m1 e=>by
 obtain⟨z',e',q⟩:=bj e;have q:=Prod.mk.inj (dZ q);obtain⟨rfl,rfl⟩:=q;exact aj ((Jw S rx ry e').2 _ ⟨ρ,S,.refl,rfl⟩)
theorem ajf(w:World):((KK w).lookup mainGlobals).isSome=true:=by kernel_rfl!
end
section
open MeetsSeq MeetsSeq2 MeetsSeq3 SeqRoads2 SeqAt
set_option backward.match.sparseCases false
variable {xs:List MV}{vs:List Value}{prog:Program}{w:World}{g:Heap}{s:Shared}{ρ:Nat->Addr}{m:MH}{z:Bool}
noncomputable def strsOf:List MV->Option (List Str)
 | []=>some []
 |x::r=>x.uW.bind fun n=>(strsOf r).bind fun ns=>some (n::ns)
noncomputable def Jy(k:Int):Value->Bool
 | .int j _=>j==k
 |_=>false
noncomputable def DD(k:Str):Value->Bool
 | .str j _=>j==k
 |_=>false
section
variable {ρ:Nat->Addr}{n:Nat}{h:Heap}
def Jz(vs:List Value)(ns:List Str):Prop:=∃ps:List (Str×Tok),vs=ps.map (fun p=>Value.str p.1 p.2)/\ps.map (·.1)=ns
theorem F2.strs(r:F2 (a_ ρ n h) xs vs):∀ {ns:List Str},strsOf xs=some ns->Jz vs ns:=by
 induction r with
 |nil=>exact fun e=>⟨[],rfl,dZ e⟩
 | @cons x v xs vs r _ ih=>
  intro ns e;obtain⟨k,hk,e⟩:=bj e;obtain⟨ms,hm,e⟩:=bj e;obtain⟨t,rfl⟩:=r.w9 hk;obtain⟨ps,rfl,q⟩:=ih hm;exact⟨(k,t)::ps,rfl,(congrArg (k:: ·) q).trans (dZ e)⟩
theorem bI.strs{ns:List Str}(r:bI ρ n h xs vs)(e:strsOf xs=some ns):Jz vs ns:=r.f2.strs e
theorem any_ints(k:Int)(ps:List (Int×Tok)):(ps.map fun p=>Value.int p.1 p.2).any (Jy k)=(ps.map (·.1)).any (· ==k):=by
 induction ps with
 |nil=>rfl
 |cons p r ih=>simp only [List.map_cons,List.any_cons,ih];rfl
theorem KH(k:Str)(ps:List (Str×Tok)):(ps.map fun p=>Value.str p.1 p.2).any (DD k)=(ps.map (·.1)).any (· ==k):=by
 induction ps with
 |nil=>rfl
 |cons p r ih=>simp only [List.map_cons,List.any_cons,ih];rfl
end
noncomputable def Qg(k:Int):MO->Option Bool
 | .list xs=>(intsOf xs).bind fun ns=>some (ns.any (· ==k))
 | .dict es=>some (lz k es).isSome
 |_=>none
noncomputable def inI(k:Int)(m:MH)(y:MV):Option Bool:=match y with
 | .obj i=>Qg k (m.ob i)
 | .tup xs=>(intsOf xs).bind fun ns=>some (ns.any (· ==k))
 | .oz a b=>some (decide (a<=k/\k<b))
 |_=>none
noncomputable def Ss(x y:MV)(m:MH):Option Bool:=match x with
 | .int k=>inI k m y
 | .str k=>y.ig.bind fun i=>(m.ob i).gQ.bind fun xs=>(strsOf xs).bind fun ns=>some (ns.any (· ==k))
 |_=>none
noncomputable def FA(x y:MV):MM Bool:=fun m=>(Ss x y m).bind fun b=>some (b,m)
theorem vt(r:Addr)(a b k:Int)(t u v tk:Tok):
  Meets (Builtin.«range.__contains__» ⟨[.ref r,.int k tk], []⟩) (fun A R s=>s.heap.get? r=some (Jd a b t u v)/\R (.ok (.ret (.bool (decide (a<=k/\k<b))))) s):=by
 intro prog w A R s h;obtain⟨hp,g,d,tks,os⟩:=s;obtain⟨hl,h⟩:=h;have hz:(Builtin.Range.rangePlace? a b 1 k).isSome=decide (a<=k/\k<b):=by
  unfold Builtin.Range.rangePlace?;simp [Int.emod_one]
  by_cases h1:a<=k <;> by_cases h2:k<b <;> simp [h1,h2]
 rw [<- hz] at h;unfold Builtin.«range.__contains__»
 wp_walk using AutoSeq1.wpAny_loadPart' hl
 exact h
def UK(prog:Program)(w:World)(A:Around)(a b:Value)(s:Shared)(z:Bool):Prop:=
 (∀Q:Value->Shared->Prop,(∀tk,Q (.bool z) {s with toks:=tk})->wpAny (model prog w) A (compareOp .In a b) Q cX s)/\(∀Q:Value->Shared->Prop,(∀tk,Q (.bool (!z)) {s with toks:=tk})->wpAny (model prog w) A (compareOp .NotIn a b) Q cX s)
theorem JA{A:Around}(S:OK prog w g s ρ m){x y:MV}{a b:Value}(rx:a_ ρ m.n s.heap x a)(ry:a_ ρ m.n s.heap y b)(e:Ss x y m=some z):UK prog w A a b s z:=by
 cases rx with
 |int k t=>
  have he:∀(ps:List (Int×Tok)) y,y∈(ps.map fun p=>Value.int p.1 p.2).toArray->EqAt A.in1 s y (.int k t) (Jy k y):=by
   intro ps y hy;simp only [List.mem_toArray,List.mem_map] at hy;obtain⟨p,_,rfl⟩:=hy;exact EqAt.int_int _ _ _ _
  have hh:=fun ps=>any_ints k ps;cases ry with
  | @obj i hi=>
   have e:Qg k (m.ob i)=some z:=e;cases q1:m.ob i with
   |list xs=>
    rw [q1] at e;obtain⟨ns,q2,e⟩:=bj e;obtain rfl:_=z:=dZ e;obtain⟨vs,ep,h1,r1⟩:=S.lst hi q1;obtain⟨ps,rfl,rfl⟩:=r1.ints q2;have hl:s.heap.IsList (ρ i) (ps.map fun p=>Value.int p.1 p.2).toArray:=⟨_,h1,rfl,_,rfl⟩;exact⟨fun Q q=>in_listAt _ hl (he ps) (by rw [List.any_toArray,hh];exact q _),fun Q q=>notIn_listAt _ hl (he ps) (by rw [List.any_toArray,hh];exact q _)⟩
   |dict es=>
    rw [q1] at e;obtain rfl:_=z:=dZ e;obtain⟨o,ho,r⟩:=S.ob i hi;rw [q1] at r;obtain⟨hc,sd,kvs,hd,hr⟩:=r;have hD:s.heap.DictOf (intKind prog w) (ρ i) kvs:=Heap.dictOf_iff.mpr ⟨o,ho,hd⟩;have hv:(valueAt kvs k).isSome=(lz k es).isSome:=by
     have:=hr.get k;cases q:lz k es with
     |some x=>rw [q] at this;obtain⟨v,e1,_⟩:=this;rw [e1];rfl
     |none=>rw [q] at this;rw [this];rfl
    exact⟨fun Q q=>wpAny_in_of (knd:=intKind prog w) (k:=k) (by simp [intKind,Value.isInt]) (beq_eq_false_iff_ne.mpr sd.2) hD.mapOf (by rw [hv];exact q _),fun Q q=>wpAny_notIn_of (knd:=intKind prog w) (k:=k) (by simp [intKind,Value.isInt]) (beq_eq_false_iff_ne.mpr sd.2) hD.mapOf (by rw [hv];exact q _)⟩
   |_=>rw [q1] at e;exact cj e
  |tup ha rs=>
   obtain⟨ns,q2,e⟩:=bj e;obtain rfl:_=z:=dZ e;obtain⟨ps,rfl,rfl⟩:=rs.ints q2;have hl:s.heap.IsTuple _ (ps.map fun p=>Value.int p.1 p.2).toArray:=⟨_,ha,rfl,_,rfl⟩;exact⟨fun Q q=>in_tupleAt _ hl (he ps) (by rw [List.any_toArray,hh];exact q _),fun Q q=>notIn_tupleAt _ hl (he ps) (by rw [List.any_toArray,hh];exact q _)⟩
  | @oz lo hi r t1 t2 t3 ha=>
   obtain rfl:_=z:=dZ e;exact⟨fun Q q=>in_meets ⟨_,ha,rfl⟩ F.slot_range_contains F.entry_range_contains (F.args_range_contains_2 _ _) (vt r lo hi k _ _ _ _) ⟨ha,_,rfl,q _⟩,
    fun Q q=>notIn_meets ⟨_,ha,rfl⟩ F.slot_range_contains F.entry_range_contains (F.args_range_contains_2 _ _) (vt r lo hi k _ _ _ _) ⟨ha,_,rfl,q _⟩⟩
  |_=>exact cj e
 |str k t=>
  obtain⟨i,hi,e⟩:=bj e;obtain⟨xs,q1,e⟩:=bj e;obtain⟨ns,q2,e⟩:=bj e;obtain rfl:_=z:=dZ e;obtain⟨hi,rfl⟩:=ry.ij hi;obtain⟨vs,ep,h1,r1⟩:=S.lst hi (MO.jN q1);obtain⟨ps,rfl,rfl⟩:=r1.strs q2;have he:∀y,y∈(ps.map fun p=>Value.str p.1 p.2).toArray->EqAt A.in1 s y (.str k t) (DD k y):=by
   intro y hy;simp only [List.mem_toArray,List.mem_map] at hy;obtain⟨p,_,rfl⟩:=hy;exact EqAt.str_str _ _ _ _
  have hl:s.heap.IsList (ρ i) (ps.map fun p=>Value.str p.1 p.2).toArray:=⟨_,h1,rfl,_,rfl⟩;have hh:=KH k ps;exact⟨fun Q q=>in_listAt _ hl he (by rw [List.any_toArray,hh];exact q _),fun Q q=>notIn_listAt _ hl he (by rw [List.any_toArray,hh];exact q _)⟩
 |_=>exact cj e
theorem Ni(S:OK prog w g s ρ m){tk:Nat}:lu prog w g fk (fun ψ ψ ψ b a=>a=Value.bool b) s ρ m z m (.bool z) {s with toks:=tk}:=
 ⟨ρ,S.grow (s':= {s with toks:=tk}) (fun ψ ψ e=>e),.grow (s':= {s with toks:=tk}) (fun ψ ψ e=>e) rfl rfl,rfl⟩
theorem Ik:jd .In FA:=fun prog w A g s ρ m x y a b hA S rx ry=> .opt fun z e=>aj ((JA S rx ry e).1 _ fun tk=>Ni S)
noncomputable def JB(x y:MV):MM Bool:=MM.bind (FA x y) fun b=>MM.ret (!b)
theorem s_:jd .NotIn JB:=fun prog w A g s ρ m x y a b hA S rx ry=> .bind fun z m1 e=>by
 obtain⟨z',e',q⟩:=bj e;have q:=Prod.mk.inj (dZ q);obtain⟨rfl,rfl⟩:=q;exact aj ((JA S rx ry e').2 _ fun tk=>Ni S)
end
section
theorem zT:∀(n:Int) (ns:List Int),iV (n::ns)∈n::ns/\∀a∈n::ns,a<=iV (n::ns)
 |n, []=>⟨List.mem_singleton.mpr rfl,fun a h=>by rw [List.mem_singleton] at h;subst h;exact Int.le_refl _⟩
 |n,k::r=>by
  obtain⟨h1,h2⟩:=zT k r;have e:iV (n::k::r)=max n (iV (k::r)):=rfl;refine⟨?_,fun a ha=> ?_⟩
  ·rw [e]
   by_cases h:n<=iV (k::r)
   ·rw [Int.max_eq_right h];exact List.mem_cons_of_mem _ h1
   ·rw [Int.max_eq_left (by exact YC h)];exact rr
  ·rw [e];rcases List.mem_cons.mp ha with rfl|ha
   ·exact Int.le_max_left ..
   ·exact Int.le_trans (h2 a ha) (Int.le_max_right ..)
theorem FC{m:MH}{o:Option (List Int)}{r:MV×MH}(e:Ih m o=some r):∃n ns,o=some (n::ns)/\r=(.int (iV (n::ns)),m):=by
 cases o with
 |none=>exact cj e
 |some l=>cases l with
  |nil=>exact cj e
  |cons n ns=>exact⟨n,ns,rfl,(dZ e).symm⟩
theorem DE:dW 0 (.builtin "max") Nd:=by
 intro prog w A g s ρ m xs vs hA S r;cases r with
 |nil=>exact True.intro
 |cons r1 rs=>cases rs with
  |nil=>
   refine .opt fun i hi=> .opt fun xs q1=> .of fun b m' e=> ?_;obtain⟨n,ns,q2,e⟩:=FC e;obtain⟨hi,rfl⟩:=r1.ij hi;cases e;obtain⟨us,ep,ho,rs⟩:=S.lst hi (MO.jN q1);obtain⟨ps,rfl,q3⟩:=rs.ints q2;have hit:(ps.map fun p=>Value.int p.1 p.2).toArray=intItems ps.toArray:=by simp [intItems]
   have hl:s.heap.IsList (ρ i) (intItems ps.toArray):=⟨_,ho,rfl,_,by rw [<- hit]⟩;have hlen:ps.length=ns.length+1:=by rw [<- eW (f:=(·.1)),q3];rfl
   refine aj (max_intList hA.2.2 hl (by simp;exact YD hlen) fun v h' tk hv hk=> ?_);obtain⟨t,rfl⟩:=intItems_at hv;obtain⟨h1,h2⟩:=argBest_gt (numAt ps.toArray) (ps.toArray.size-1);obtain⟨m1,m2⟩:=zT n ns;have key:numAt ps.toArray (argBest (fun i j=>decide (numAt ps.toArray i>numAt ps.toArray j)) (ps.toArray.size-1))=iV (n::ns):=by
    have hsz:ps.toArray.size=ns.length+1:=by simp [hlen]
    refine Int.le_antisymm (m2 _ ?_) ?_
    ·rw [ur,q3];have j_:argBest (fun i j=>decide (numAt ps.toArray i>numAt ps.toArray j)) (ps.toArray.size-1)<(n::ns).length:=by rw [oI];exact YE h1 hsz
     rw [pS,iP j_];exact List.getElem_mem j_
    ·obtain⟨j,hj,ej⟩:=List.getElem_of_mem m1;rw [<- ej];have:=h2 j (by rw [oI] at hj;exact YF hsz hj);rw [ur ps j,q3,pS,iP hj] at this;exact this
   rw [key];exact doneK S hk fun ψ=> .int _ _
  |cons r2 rs=>cases rs with
   |nil=>
    exact .opt fun a ha=> .opt fun b hb=>by
     obtain⟨_,rfl⟩:=r1.iD ha;obtain⟨_,rfl⟩:=r2.iD hb;refine aj (max_two_ints hA.2.2 fun h' tk hk=>doneK S hk fun ψ=> ?_)
     split <;> exact .int _ _
   |cons _ _=>exact True.intro
noncomputable def boolsOf:List MV->Option (List Bool)
 | []=>some []
 |x::r=>x.bool?.bind fun n=>(boolsOf r).bind fun ns=>some (n::ns)
theorem F2.bools{ρ:Nat->Addr}{n:Nat}{h:Heap}{xs:List MV}{vs:List Value}(r:F2 (a_ ρ n h) xs vs):∀ {ns:List Bool},boolsOf xs=some ns->vs=ns.map Value.bool:=by
 induction r with
 |nil=>exact fun e=>dZ e▸rfl
 | @cons x v xs vs r _ ih=>
  intro ns e;obtain⟨k,hk,e⟩:=bj e;obtain⟨ms,hm,e⟩:=bj e;rw [r.CP hk,ih hm];exact congrArg (List.map Value.bool) (dZ e)
noncomputable def JC(x:MV):MM MV:=fun m=>x.ig.bind fun i=>(m.ob i).gQ.bind fun xs=>(boolsOf xs).bind fun bs=>some (.bool (bs.all id),m)
theorem DF:dW 0 (.builtin "all") (se JC):=zQ fun prog w A g s ρ m x v hA S r=> .opt fun i hi=> .opt fun xs q1=> .opt fun bs q2=>by
 obtain⟨hi,rfl⟩:=r.ij hi;obtain⟨us,ep,ho,rs⟩:=S.lst hi (MO.jN q1);have hu:=rs.f2.bools q2;subst hu;have iZ:ρ i≠s.heap.objs.size:=Nat.ne_of_lt (Heap.lt_size ho);have hl:s.heap.IsList (ρ i) (bs.map Value.bool).toArray:=⟨_,ho,rfl,_,rfl⟩;refine aj (call_all_walk (wpAny_pyIter_list hl ?_));have W:=Walks.list (prog:=prog) (w:=w) (A:=A.in1) hA.2.2 s.heap.objs.size (ρ i) iZ (bs.map Value.bool).toArray;refine⟨s.heap.objs.size, [s.heap.objs.size,ρ i], [s.heap.objs.size],(bs.map Value.bool).toArray.size,_,_,fun j=>bs.getD j true,rfl,W,⟨⟨_,iQ _ rfl,rfl,rfl⟩, ?_⟩, ?_, ?_⟩
 ·obtain⟨o,ho,r⟩:=hl;exact⟨o,gS _ ho,r⟩
 ·intro j v s Q E hv hQ;have EM:bs[j]?.map Value.bool=some v:=by simpa using hv
  cases hb:bs[j]? with
  |none=>rw [hb] at EM;cases EM
  |some c=>
   rw [hb] at EM;cases EM;have:bs.getD j true=c:=by rw [pS,hb];rfl
   have hQ':Q (bs.getD j true) s:=hQ;rw [this] at hQ';exact wpAny_truthy_bool hQ'
 ·intro h' tk T4;have hz:((List.range (bs.map Value.bool).toArray.size).all fun j=>bs.getD j true)=bs.all id:=by
   rw [fW,eW,Bool.eq_iff_iff,List.all_eq_true,List.all_eq_true]
   constructor
   ·intro h x hx;obtain⟨j,hj,rfl⟩:=List.getElem_of_mem hx;have:=h j (List.mem_range.mpr hj);rw [pS,iP hj] at this;exact this
   ·intro h j hj;rw [List.mem_range] at hj;rw [pS,iP hj];exact h _ (List.getElem_mem hj)
  rw [hz];refine doneK S (fun a o e=>T4 a o ?_ (gS _ e)) fun ψ=> .bool _;rw [List.mem_singleton];intro q;rw [q,cA] at e;exact cj e
def JD(k:Str)(id:String)(P:MH->MV->Bool):Prop:=
 ∀prog w A g s ρ m x a pl (Q:Value×List Value->Shared->Prop),OK prog w g s ρ m->a_ ρ m.n s.heap x a->P m x=true->Q (.builtin id, [a]) s->wpAny (model prog w) A (getMethod a k pl) Q cX s
noncomputable def ye(P:MH->MV->Bool)(x:MV):MM Unit:=fun m=>if P m x=true then some ((),m) else none
noncomputable def Qi(P:MH->MV->Bool)(f:List MV->MM MV)(co:av->MM MV)(ca:av->MM (List MV)):av->MM MV:=fun fr=>MM.bind (co fr) fun x=>MM.bind (ye P x) fun ψ=>MM.bind (ca fr) fun xs=>f (x::xs)
theorem ez{n:Nat}{sg:Sg}{o:Expr}{k:Str}{id:String}{apos pos:Pos}{args:List Expr}{co:av->MM MV}{ca:av->MM (List MV)}{P:MH->MV->Bool}{f:List MV->MM MV}(ho:cD n sg o co)(ha:nN n sg args ca)(hp:Plain args)
  (hg:JD k id P)(hf:dW 0 (.builtin id) f)
  (he:∀env,∃pl,eval (.Call (.Attribute o k apos) args [] pos) env=(do
   let ov <- eval o env
   standAt apos.atName
   let(f,first) <- holding [ov] (getMethod ov k pl)
   callWith pos f first (backTo pos (starEach args env)) (backToKw pos (keywordEach [] env)))):
  cD n sg (.Call (.Attribute o k apos) args [] pos) (Qi P f co ca):=by
 intro prog w A g env fr s ρ m hA S F;refine .bind fun x m1 e1=> .bind fun ψ m2 e2=> .bind fun xs m3 e3=> .of fun b m' e=> ?_;obtain⟨pl,he⟩:=he env;obtain⟨h1,q⟩:=ky e2;cases q;refine mv ((ho _ _ A _ _ _ _ _ _ hA S F).step e1 fun a s1 ρ1 S1 V1 r1=> ?_) he;refine aj (hg _ _ A _ _ _ _ _ _ _ _ S1 r1 h1 ?_);refine wd (first:= [a]) ha hp (aG rfl) hA S1 (F.dP V1) e3 fun vs s2 ρ2 S2 V2 r2=> ?_;exact(hf.less (Nat.zero_le _)).call hA S2 (.cons (r1.mono V2.mono) r2) e fun v s3 ρ3 S3 V3 r3=>⟨ρ3,S3,(V1.comp V2).comp V3,r3⟩
noncomputable def Il(m:MH)(x:MV):Bool:=(x.ig.bind fun i=>(m.ob i).gQ).isSome
noncomputable def JE(m:MH)(x:MV):Bool:=(x.ig.bind fun i=>(m.ob i).Km).isSome
noncomputable def isStr(_:MH)(x:MV):Bool:=x.uW.isSome
theorem gj{k:Str}{id:String}(slot:Slot "list" k id)(hty:typeOf (.builtin id)=pure (.type "method_descriptor")):JD k id Il:=by
 intro prog w A g s ρ m x a pl Q S r h q;obtain⟨xs,h⟩:=Option.isSome_iff_exists.mp h;obtain⟨i,hi,h⟩:=bj h;obtain⟨hi,rfl⟩:=r.ij hi;obtain⟨us,ep,ho,rs⟩:=S.lst hi (MO.jN h);exact getMethod_list_of slot hty ⟨_,ho,rfl,_,rfl⟩ ⟨_,ho,rfl⟩ q
theorem FD:JD "extend" "bytearray.extend" JE:=by
 intro prog w A g s ρ m x a pl Q S r h q;obtain⟨xs,h⟩:=Option.isSome_iff_exists.mp h;obtain⟨i,hi,h⟩:=bj h;obtain⟨hi,rfl⟩:=r.ij hi;exact Be (S.bar hi (MO.T8 h)) q
theorem Im:JD "join" "str.join" isStr:=by
 intro prog w A g s ρ m x a pl Q S r h q;obtain⟨xs,h⟩:=Option.isSome_iff_exists.mp h;obtain⟨_,rfl⟩:=r.w9 h;exact _root_.PySem.GM.join q
noncomputable def FE:List MV->MM MV:=yd fun x y m=>x.ig.bind fun i=>(m.ob i).gQ.bind fun xs=>if xs.length<=100000/\i<m.n then some (.none,m.set i (.list (xs++ [y]))) else none
theorem uv:dW 0 (.builtin "list.append") FE:=Ig fun prog w A g s ρ m x y v u hA S r r2=> .opt fun i hi=> .opt fun xs q1=> .ite fun hz=>by
 obtain⟨hi,rfl⟩:=r.ij hi;obtain⟨us,ep,ho,rs⟩:=S.lst hi (MO.jN q1);refine aj (wpAny_list_append_plain (hsz:=by rw [fW, <- rs.length,sizeLine_eq];exact Wm hz) ⟨_,ho⟩ fun h' hp hs=> ?_);obtain⟨n',hF⟩:=hp;have kp:∀a o,a≠ρ i->s.heap.get? a=some o->h'.get? a=some o:=fun a o ha eo=>(hs.2 a ha).trans eo;exact⟨ρ,S.put (s':= {s with heap:=h'}) hi kp hF fun M=>⟨us++ [u],n',by simp,(rs.mono M).append (.cons (r2.mono M) .nil)⟩,.put S (s':= {s with heap:=h'}) hi kp ⟨_,hF⟩ rfl rfl,.none⟩
noncomputable def FG:List MV->MM MV:=yd fun x y m=>x.ig.bind fun i=>y.ig.bind fun j=>(m.ob i).gQ.bind fun xs=>(m.ob j).gQ.bind fun ys=>if xs.length+ys.length<=100000/\i<m.n then some (.none,m.set i (.list (xs++ys))) else none
theorem nU:dW 0 (.builtin "list.extend") FG:=Ig fun prog w A g s ρ m x y v u hA S r r2=> .opt fun i hi=> .opt fun j hj=> .opt fun xs q1=> .opt fun ys q2=> .ite fun hz=>by
 obtain⟨hi,rfl⟩:=r.ij hi;obtain⟨hj,rfl⟩:=r2.ij hj;obtain⟨us,ep,ho,rs⟩:=S.lst hi (MO.jN q1);obtain⟨FH,Nj,pj,Qj⟩:=S.lst hj (MO.jN q2);have Nk:us.toArray.size+FH.toArray.size<=sizeLine:=by rw [fW,fW, <- rs.length, <- Qj.length,sizeLine_eq];exact YG hz
 refine aj (call_meets PySem.F.slot_list_extend ⟨_,ho,rfl⟩ PySem.F.entry_list_extend (PySem.F.args_list_extend_2 _ _) (AutoSeq1.list_extend_list_list_0 _ us.toArray _ _ FH.toArray _ (extend_door Nk) (jb (Nat.le_add_right _ _) Nk) (jb Nk (Nat.le_succ _))) ⟨ho,pj, ?_⟩);generalize hh:s.heap.update (ρ i) (Obj.mapSeq fun x=>x++FH.toArray)=h';have e:us.toArray++FH.toArray=(us++FH).toArray:=by simp
 have hF:h'.get? (ρ i)=some {cls:= .type "list",data:= .seq (us++FH).toArray (if(us.toArray++FH.toArray).size==us.toArray.size then ep else ep+1)}:=by
  rw [<- hh,Heap.get?_update_self _ ho (by rw [mapSeq_app];rfl),mapSeq_app,e]
 have hs:Heap.SameBut (ρ i) s.heap h':=hh▸Heap.SameBut.update ..;have kp:∀a o,a≠ρ i->s.heap.get? a=some o->h'.get? a=some o:=fun a o ha eo=>(hs.2 a ha).trans eo;exact⟨ρ,S.put (s':= {s with heap:=h'}) hi kp hF fun M=>⟨us++FH,_,rfl,(rs.mono M).append (Qj.mono M)⟩,.put S (s':= {s with heap:=h'}) hi kp ⟨_,hF⟩ rfl rfl,.none⟩
noncomputable def Io:List MV->MM MV:=yd fun x y m=>x.ig.bind fun i=>y.qn.bind fun x=>(m.ob i).Km.bind fun b=>if b.length+x.length<=100000/\i<m.n then some (.none,m.set i (.ba (b++x))) else none
theorem FI:dW 0 (.builtin "bytearray.extend") Io:=Ig fun prog w A g s ρ m x y v u hA S r r2=> .opt fun i hi=> .opt fun x hx=> .opt fun b q1=> .ite fun hz=>by
 obtain⟨hi,rfl⟩:=r.ij hi;obtain⟨_,rfl⟩:=r2.uX hx;refine Ie (S.bar hi (MO.T8 q1)) hz.1 fun h' hF hs=> ?_;have kp:∀a o,a≠ρ i->s.heap.get? a=some o->h'.get? a=some o:=fun a o ha eo=>(hs.2 a ha).trans eo;exact⟨ρ,S.put (s':= {s with heap:=h'}) hi kp hF fun M=>rfl,.put S (s':= {s with heap:=h'}) hi kp ⟨_,hF⟩ rfl rfl,.none⟩
noncomputable def zU(k:Str):List Str->Option Nat
 | []=>none
 |x::r=>if x=k then some 0 else(zU k r).map (· +1)
theorem zV(k:Str):∀(l:List Str) (j:Nat),zU k l=some j->l[j]? =some k/\∀i,i<j->∀y,l[i]? =some y->y≠k
 | [],j,e=>by cases e
 |x::r,j,e=>by
  change (if x=k then some 0 else(zU k r).map (· +1))=some j at e
  by_cases h:x=k
  ·rw [if_pos h] at e;cases e;exact⟨congrArg some h,fun i hi=>absurd hi (Nat.not_lt_zero _)⟩
  ·rw [if_neg h,nK] at e;obtain⟨j',e',rfl⟩:=e;obtain⟨h1,h2⟩:=zV k r j' e';refine⟨h1,fun i hi y hy=> ?_⟩;cases i with
   |zero=>cases hy;exact h
   |succ i=>exact h2 i (by exact YH hi) y hy
noncomputable def JF:List MV->MM MV:=yd fun x y m=>x.ig.bind fun i=>y.uW.bind fun k=>(m.ob i).gQ.bind fun xs=>(strsOf xs).bind fun ns=>(zU k ns).bind fun j=>if ns.length<=100000 then some (.int (j:Int),m) else none
theorem wD:dW 0 (.builtin "list.index") JF:=Ig fun prog w A g s ρ m x y v u hA S r r2=> .opt fun i hi=> .opt fun k hk=> .opt fun xs q1=> .opt fun ns q2=> .opt fun j q3=> .ite fun hz=>by
 obtain⟨hi,rfl⟩:=r.ij hi;obtain⟨t,rfl⟩:=r2.w9 hk;obtain⟨us,ep,ho,rs⟩:=S.lst hi (MO.jN q1);obtain⟨ps,rfl,rfl⟩:=rs.strs q2;obtain⟨h1,h2⟩:=zV k _ _ q3;have hj:j<(ps.map (·.1)).length:=(List.getElem?_eq_some_iff.mp h1).1;have Ff:j<ps.length:=by simpa using hj
 rw [eW] at hz;have at_:∀i (hi:i<ps.length),(ps.map fun p=>Value.str p.1 p.2).toArray[i]'(by simpa using hi)= .str ps[i].1 ps[i].2:=fun i hi=>by simp
 refine aj (call_meets F.slot_list_index ⟨_,ho,rfl⟩ F.entry_list_index (F.args_list_index_2 _ _) (SeqAt.list_indexAt _ (ps.map fun p=>Value.str p.1 p.2).toArray _ _ _ (.str k t) (DD k) j (by simpa using Ff) (by exact YI hz Ff) ?_ ?_) ⟨ho, ?_, ?_⟩)
 ·rw [at_ j Ff];rw [i_,iP Ff,Option.map_some,Option.some.injEq] at h1;rw [h1];exact beq_self_eq_true _
 ·intro i hi hij;have pk:i<ps.length:=by simpa using hi
  rw [at_ i pk];exact beq_eq_false_iff_ne.mpr (h2 i hij _ (by rw [i_,iP pk];rfl))
 ·intro y hy;simp only [List.mem_toArray,List.mem_map] at hy;obtain⟨p,_,rfl⟩:=hy;exact SeqAt.EqAt.str_str _ _ _ _
 ·exact gM S (.int _ _)
end
section
variable {ρ:Nat->Addr}{n:Nat}{h:Heap}{w:World}{kvs:List (Int×Value)}
noncomputable def distinct(ns:List Int):Nat:=(PyProof.Rows.firstMet (fun i=>ns.getD i 0) ns.length).length
noncomputable def Nl(x:MV):MM MV:=fun m=>x.ig.bind fun i=>(m.ob i).gQ.bind fun xs=>(intsOf xs).bind fun ns=>if ns.length<=4000 then some (.obj m.n,m.new (.tL (distinct ns))) else none
theorem Qk:dW 0 (.type "set") (se Nl):=zQ fun prog w A g s ρ m x v hA S r=> .opt fun i hi=> .opt fun xs q1=> .opt fun ns q2=> .ite fun hz=>by
 obtain⟨hi,rfl⟩:=r.ij hi;obtain⟨us,ep,ho,rs⟩:=S.lst hi (MO.jN q1);obtain⟨ps,rfl,rfl⟩:=rs.ints q2;rw [eW] at hz;refine aj (call_set_list (ns:=ps.map (·.1)) (items:=(ps.map fun p=>Value.int p.1 p.2).toArray) hA.2.2 ⟨_,ho,rfl,_,rfl⟩ (IntsAre.wC ps) (by rw [fW,eW];show _<4096;exact WR hz) fun h' tk adO hk=> ?_);obtain⟨o,es,CT,t,hg,hex,hd,_,_,_,hf,hn⟩:=adO;have hn:es.size=distinct (ps.map (·.1)):=by
  rw [hn];unfold distinct;simp
 refine xp (o:=o) S (fun a o e=>hk a o (Heap.lt_size e) e) hg (cA _) fun M=>⟨hex,es,CT,t,hd,hf,hn⟩
noncomputable def zW(x:MV):MM MV:=fun m=>x.ig.bind fun i=>(m.ob i).Hr.bind fun es=>if es.length<64 then some (.obj m.n,m.new (.list ((sortI (es.map (·.1))).map MV.int))) else none
theorem bI.Nm{vs:List Value}{ns:List Int}(r:IntsAre vs ns):bI ρ n h (ns.map MV.int) vs:=by
 induction r with
 |nil=>exact .nil
 |cons _ _ _ ih=>exact .cons (.int _ _) ih
theorem DG{prog:Program}{A:Around}{E:Value->Shared->Prop}{s:Shared}{d:Addr}{Q:Value->Shared->Prop}(hh:A.handled=none)(lo:(d==sysModules)=false)(hD:s.heap.DictOf (intKind prog w) d kvs)(UL:kvs.length<64)
  (h:∀(h':Heap) (tk:Nat) (a:Addr) (out:Array Value) (e:Nat),(∀b o,s.heap.get? b=some o->h'.get? b=some o)->s.heap.get? a=none->h'.get? a=some (fO out.toList e)->IntsAre out.toList (sortI (kvs.map (·.1)))->Q (.ref a) {s with heap:=h',toks:=tk}):
  wpAny (model prog w) A (call (.builtin "sorted") [.ref d]) Q E s:=by
 obtain⟨ep,yf⟩:=hD.dictAt;refine call_function_entry kind_sorted plain_sorted entry_sorted (args_sorted1 _) ?_;refine aN (m:=checkCount "sorted" 1 1 _) (cP ?_);refine aN (kdu_collect (A:=A.in1) (kdl_dict (knd:=intKind prog w) (kvs:=kvs) (ep:=ep) lo) hh yf (by rw [sizeLine_eq];exact Wq UL) fun h' tk acc hk FJ=> ?_);have hl:acc.toList.length=kvs.length:=by rw [Array.length_toList];exact FJ.1
 have hI:IntsAre acc.toList (kvs.map (·.1)):=by
  have key:∀(l:List Value) (kv:List (Int×Value)),l.length=kv.length->(∀(j:Nat) (v:Value),l[j]? =some v->∃(k:Int) (x:Value),kv[j]? =some (k,x)/\(intKind prog w).is k v=true)->IntsAre l (kv.map (·.1)):=by
   intro l
   induction l with
   |nil=>intro kv hl _;cases kv with
    |nil=>exact .nil
    |cons _ _=>cases hl
   |cons v l ih=>intro kv hl hv;cases kv with
    |nil=>cases hl
    |cons p kv=>
     obtain⟨k,x,e,hk⟩:=hv 0 v rfl;have ek:p=(k,x):=by simpa using e
     subst ek;have EM:∃t,v= .int k t:=by
      cases v <;> simp [intKind,Value.isInt] at hk
      subst hk;exact⟨_,rfl⟩
     obtain⟨t,rfl⟩:=EM;exact .cons _ _ (ih kv (by simpa using hl) fun j v e=>hv (j+1) v e)
  exact key _ _ hl fun j v e=>FJ.2 j v (by rw [<- Array.getElem?_toList];exact e)
 refine aN (wpAny_newList ?_ (by rw [hl,sizeLine_eq];exact Wq UL));have UM:(h'.push (seqObj "list" acc.toList.toArray 0)).get? h'.objs.size=some (seqObj "list" acc.toList.toArray 0):=iQ _ rfl;have hn:s.heap.get? h'.objs.size=none:=by
  cases q:s.heap.get? h'.objs.size with
  |none=>rfl
  |some o=>exact absurd (Heap.lt_size (hk _ _ q)) (Nat.lt_irrefl _)
 refine aN (wpAny_holding (wpAny_call_entry slot_list_sort ⟨_,UM,rfl⟩ entry_list_sort (list_sort_tree UM hI (by exact WS UL hl) fun out ns' a1 a2 a3=>⟨_,rfl, ?_⟩) (args_list_sort _)));obtain⟨e,he⟩:=sortedHeap_at (out:=out) UM;refine cP ⟨_,rfl,h _ _ _ out e (fun b o eb=> ?_) hn he (by rw [<- eq_sortI a2 a3];exact a1)⟩;have hb:b≠h'.objs.size:=fun q=>by rw [q,hn] at eb;cases eb
 rw [sortedHeap_old hb (by rw [Heap.size_push];exact Nat.lt_succ_of_lt (Heap.lt_size (hk _ _ eb)))];exact gS _ (hk _ _ eb)
theorem fh.keys{es:List (Int×MV)}(r:fh ρ n h es kvs):kvs.map (·.1)=es.map (·.1):=by
 induction r with
 |nil=>rfl
 |cons _ _ ih=>simp only [List.map_cons,ih]
theorem uw:dW 0 (.builtin "sorted") (se zW):=zQ fun prog w A g s ρ m x v hA S r=> .opt fun i hi=> .opt fun es q1=> .ite fun hz=>by
 obtain⟨hi,rfl⟩:=r.ij hi;obtain⟨o,ho,r⟩:=S.ob i hi;rw [MO.T9 q1] at r;obtain⟨hc,sd,kvs,hd,hr⟩:=r;have hD:s.heap.DictOf (intKind prog w) (ρ i) kvs:=Heap.dictOf_iff.mpr ⟨o,ho,hd⟩;refine aj (DG hA.2.2 (beq_eq_false_iff_ne.mpr sd.2) hD (by rw [<- hr.length];exact hz) fun h' tk a out e hk hn ha hI=> ?_);rw [hr.keys] at hI;exact xp S hk ha hn fun M=>⟨_,_,rfl,.Nm hI⟩
theorem Base.size(b:Base w h):sysModules<h.objs.size:=by
 obtain⟨mg,mb,⟨o,_,_,e,_⟩,_⟩:=b.top;exact Nat.lt_trans (by decide:sysModules<mainGlobals) (Heap.lt_size e)
theorem xq{sg:Sg}{p:Pos}:cD n sg (.Dict [] [] p) fun ψ=>fun m=>some (.obj m.n,m.new (.dict [])):=by
 intro prog w A g env fr s ρ m hA S F;refine aj (wpAny_Dict_empty ?_);have hs:Sub s.heap (s.heap.push {cls:= .type "dict",data:= .dict #[]}):=fun a o e=>gS _ e;obtain⟨o,ho,hd⟩:=Heap.dictOf_iff.mp (Heap.DictOf.new (knd:=intKind prog w) s.heap);have hc:o.cls= .type "dict":=by
  obtain⟨_,_,hx,_⟩:=hd
  first|exact hx|exact hx.1|exact hx.2
 exact xp (t:=s.toks) S hs ho (cA _) fun M=>⟨hc,⟨gA _,by rw [ei];exact Nat.ne_of_gt S.now.size⟩, [],hd,.nil⟩
end
section
variable {l r₁ r₂ x:Expr}{o₁ o₂:CmpOp}{p:Pos}{cx:av->MM MV}
theorem Ip{M:Model}{A:Around}{E:Value->Shared->Prop}{s:Shared}{env:Env}{pos:Pos}{Q:Value->Shared->Prop}(hb:lastMarks [o₁,o₂] [r₁,r₂]=false)
  (h:ay s E A M (fun a s₁=>ay s₁ E A M (fun b s₂=>ay s₂ E A M (fun c s₃=>ay s₃ E A M (fun t s₄=>
   if t=true then ay s₄ E A M (fun d s₅=>ay s₅ E A M Q (compareOp o₂ b d)) (eval r₂ env) else Q c s₄) (truthy c)) (compareOp o₁ a b)) (eval r₁ env)) (eval l env)):
  ay s E A M Q (eval (.Compare l [o₁,o₂] [r₁,r₂] pos) env):=by
 show ay s E A M Q (do compareChain pos (<- eval l env) [o₁,o₂] (markedEach [o₁,o₂] [r₁,r₂] (evalEach [r₁,r₂] env)));rw [markedEach_of_false _ _ _ hb];refine af (au h (fun a s₁ h₁=> ?_) fun ψ ψ e=>e);refine af (aK (au h₁ (fun b s₂ h₂=>af (bx (af (aK (au h₂ (fun c s₃ h₃=>af (ql (af (aK (au h₃ (fun t s₄ h₄=> ?_) fun ψ ψ e=>e))))) fun ψ ψ e=>e))))) fun ψ ψ e=>e));cases t with
 |false=>exact ax h₄
 |true=>
  exact af (aK (au h₄ (fun d s₅ h₅=>af (bx (qi h₅))) fun ψ ψ e=>e))
section
variable {n:Nat}{sg:Sg}
theorem xr{cl c1 c2:av->MM MV}{f1 f2:MV->MV->MM Bool}(hl:cD n sg l cl)(h1:cD n sg r₁ c1)(h2:cD n sg r₂ c2)(uZ:jd o₁ f1)(pj:jd o₂ f2)
  (hm:lastMarks [o₁,o₂] [r₁,r₂]=false):
  cD n sg (.Compare l [o₁,o₂] [r₁,r₂] p) fun fr=>MM.bind (cl fr) fun a=>MM.bind (c1 fr) fun b=>MM.bind (f1 a b) fun t=>bif t then MM.bind (c2 fr) fun d=>MM.bind (f2 b d) fun z=>MM.ret (.bool z) else MM.ret (.bool false):=by
 intro prog w A g env fr s ρ m hA S F;refine .bind fun x m1 e1=> .bind fun y m2 e2=> .bind fun t m3 e3=> .of fun b m' e=> ?_;refine Ip hm ((hl _ _ A _ _ _ _ _ _ hA S F).step e1 fun a s1 ρ1 S1 V1 r1=> ?_);refine(h1 _ _ A _ _ _ _ _ _ hA S1 (F.dP V1)).step e2 fun c s2 ρ2 S2 V2 r2=> ?_;refine(uZ _ _ A _ _ _ _ _ _ _ _ (hA.less (Nat.zero_le _)) S2 (r1.mono V2.mono) r2).step e3 fun v s3 ρ3 S3 V3 r3=> ?_;subst r3;refine aj (wpAny_truthy_bool ?_);cases t with
 |false=>
  obtain⟨rfl,rfl⟩:=MM.lD e;rw [if_neg (bR rfl)];exact⟨ρ3,S3,(V1.comp V2).comp V3,.bool _⟩
 |true=>
  rw [if_pos rfl];obtain⟨z,m4,e4,e⟩:=MM.bind_some e;obtain⟨q,m5,e5,e⟩:=MM.bind_some e;obtain⟨rfl,rfl⟩:=MM.lD e;have F2:=(F.dP V1).dP V2;refine(h2 _ _ A _ _ _ _ _ _ hA S3 (F2.dP V3)).step e4 fun d s4 ρ4 S4 V4 r4=> ?_;refine(pj _ _ A _ _ _ _ _ _ _ _ (hA.less (Nat.zero_le _)) S4 ((r2.mono V3.mono).mono V4.mono) r4).step e5 fun v s5 ρ5 S5 V5 r5=> ?_;subst r5;exact⟨ρ5,S5,(((V1.comp V2).comp V3).comp V4).comp V5,.bool _⟩
theorem Iq{y:Expr}{cy:av->MM MV}(hx:cD n sg x cx)(hy:cD n sg y cy):
  cD n sg (.BoolOp .And [x,y] p) fun fr=>MM.bind (cx fr) fun a=>MM.bind (u0 a) fun t=>bif t then cy fr else MM.ret (.bool false):=by
 intro prog w A g env fr s ρ m hA S F;refine .bind fun a m1 e1=> .bind fun t m2 e2=> .of fun b m' e=> ?_;refine af ((hx _ _ A _ _ _ _ _ _ hA S F).step e1 fun v s1 ρ1 S1 V1 r1=> ?_);obtain⟨b',hb,e2⟩:=bj e2;obtain rfl:=r1.CP hb;cases e2;refine af (bx (af (aK (aj (wpAny_truthy_bool ?_)))));cases t with
 |false=>
  obtain⟨rfl,rfl⟩:=MM.lD e;exact ax ⟨ρ1,S1,V1,.bool _⟩
 |true=>
  exact(hy _ _ A _ _ _ _ _ _ hA S1 (F.dP V1)).step e fun v s2 ρ2 S2 V2 r2=>⟨ρ2,S2,V1.comp V2,r2⟩
noncomputable def Su(x:MV):MM MV:=fun m=>x.int?.bind fun k=>some (.int (-k),m)
theorem BY(hx:cD n sg x cx):cD n sg (.UnaryOp .USub x p) (oC cx Su):=by
 intro prog w A g env fr s ρ m hA S F;refine .bind fun a m1 e1=> .of fun b m' e=> ?_;refine af ((hx _ _ A _ _ _ _ _ _ hA S F).step e1 fun v s1 ρ1 S1 V1 r1=> ?_);obtain⟨k,hk,e⟩:=bj e;cases e;obtain⟨_,rfl⟩:=r1.iD hk;refine af (bx (aK (aj (neg_int ?_))));obtain⟨ρ2,S2,V2,r2⟩:=gM (T:=fk) (t:=s1.toks+1) S1 (.int _ _);exact⟨ρ2,S2,V1.comp V2,r2⟩
end
end
section
variable {env:Env}{e:Expr}{kk n:Nat}{A:Around}{es:List Expr}{p tp:Pos}{c:av->MM MV}{is:List Nat}{ρ:Nat->Addr}
section
variable {n:Nat}{sg:Sg}
noncomputable abbrev BZ(sg:Sg)(env:Env):Env:= {env with scope:= {env.scope with kind:= .function,names:=sg.nm}}
theorem zX{t:Expr}(h:lP e=true):swapsWithSole [t] e n env=pure false:=by
 have:swapsWithSole [t] e n env=swapsWith e (some t) n env:=by unfold swapsWithSole;rfl
 rw [this];exact ku h
theorem sf(h:yZ sg env)(ts:List Expr)(v:Expr):swappedStores ts v env=swappedStores ts v (BZ sg env):=by
 have h1:env.scope= {env.scope with kind:= .function,names:=sg.nm}:=by
  have a:=h.kind;have b:=h.nm;generalize env.scope=sc at a b ⊢;cases sc;dsimp only at a b ⊢;subst a b
  rfl
 have h2:env=BZ sg env:=by
  generalize zj:env.scope=sc at h1;unfold BZ;rw [zj, <- h1];cases env;dsimp only at zj ⊢;rw [zj]
 rw [<- h2]
theorem vu{M:Model}{s:Shared}{mQ:List Expr}{k:Nat}{vw:Pos}{value:Expr}{pos:Pos}{Q:Flow->Shared->Prop}
  (h:ay s cX A M (fun v s₁=>ay s₁ cX A M (fun ψ=>Q .next) (assign (.Tuple mQ k vw) env v)) (eval value env))
  (hs:swapsWithSole [.Tuple mQ k vw] value pos.line env=pure false)(hw:swappedStores [.Tuple mQ k vw] value env=pure none):
  ay s cX A M Q (exec (.Assign [.Tuple mQ k vw] value pos) env):=by
 rw [exec_Assign];refine af (bx ?_);rw [hs];refine af (ax ?_);rw [if_neg (by decide)];refine af (au h (fun v s₁ h₁=> ?_) fun ψ ψ x=>x);rw [hw];refine af (ax ?_);exact af (au h₁ (fun ψ ψ x=>ax x) fun ψ ψ x=>x)
theorem nG(h:cD n sg e c)(ht:l_ false sg es is)(hc:lP e=true)
  (hw:∀env,swappedStores [.Tuple es kk tp] e (BZ sg env)=pure none):fX n sg (.Assign [.Tuple es kk tp] e p) (SM.use c (SM.unpack is)):=by
 intro prog w A g env fr s ρ m hA S F;refine .use fun v m1 e1=> .of fun f fD m' e=> ?_;refine vu ((h _ _ A _ _ _ _ _ _ hA S F).step e1 fun a s1 ρ1 S1 V1 r1=>aj ?_) (zX hc) ((sf F.ev _ _).trans (hw env));exact fq ht _ _ A _ _ _ _ _ _ _ _ hA.2.2 S1 (F.dP V1) r1 _ _ _ e _ _ fun s2 ρ2 S2 V2 F2 hf=>⟨ρ2,S2,V1.weak.comp V2,by subst hf;exact .next,F2⟩
inductive zY (sg:Sg):List Str->List Nat->Prop where
 |nil:zY sg [] []
 |cons {i:Nat} {x:Str} {es:List Str} {is:List Nat} (hk:sg.ks[i]? =some x) (h:zY sg es is):zY sg (x::es) (i::is)
theorem zY.length{es:List Str}(h:zY sg es is):es.length=is.length:=by
 induction h with
 |nil=>rfl
 |cons _ _ ih=>simp [ih]
theorem DH{prog:Program}{w:World}{g:Heap}{m:MH}{es:List Str}(h:zY sg es is):∀ {s:Shared} {fr:av} {ys:List MV} {vs:List Value} {K:Unit->Shared->Prop} {E:Value->Shared->Prop},
  OK prog w g s ρ m->dw sg env fr g s ρ m.n->bI ρ m.n s.heap ys vs->ys.length=is.length->(∀s',OK prog w g s' ρ m->dh (Own env) s ρ m s' ρ m->dw sg env (iR fr is ys) g s' ρ m.n->K () s')->
  wpAny (model prog w) A (assignInOrder (es.map fun e=>bindName env e) vs) K E s:=by
 induction h with
 |nil=>
  intro s fr ys vs K E S F r hl k;exact assignInOrder_nil (k s S .refl F)
 | @cons i x es is hk h ih=>
  intro s fr ys vs K E S F r hlen k;cases r with
  |nil=>simp at hlen
  | @cons y v ys vs r rs=>
   refine assignInOrder_cons (wpAny_bindName (nt i S F hk r fun s1 S1 V1 ψ F1=> ?_));exact ih S1 F1 (rs.mono V1.mono) (by simpa using hlen) fun s2 S2 V2 F2=>k s2 S2 (V1.comp V2) F2
noncomputable def SM.si(is:List Nat)(x:MV):SM:=fun fr m=>x.BJ.bind fun xs=>if xs.length=is.length then some (.next,iR fr is xs.reverse,m) else none
theorem bI.reverse{h:Heap}{xs:List MV}{vs:List Value}(r:bI ρ n h xs vs):bI ρ n h xs.reverse vs.reverse:=by
 have q:=r.f2;clear r
 induction q with
 |nil=>exact .nil
 |cons a _ ih=>rw [List.reverse_cons,List.reverse_cons];exact ih.append (.cons a .nil)
theorem lF{names Sv:List Str}(h:cD n sg e c)(ht:zY sg Sv is)(hr:names.reverse=Sv)(hc:lP e=true)
  (hw:∀env,swappedStores [.Tuple es kk tp] e (BZ sg env)=pure (some names)):fX n sg (.Assign [.Tuple es kk tp] e p) (SM.use c (SM.si is)):=by
 intro prog w A g env fr s ρ m hA S F;refine .use fun v m' e1=> .opt fun xs hx=> .ite fun hl=> ?_;show ay _ _ _ _ _ _;rw [exec_Assign];refine af (bx ?_);rw [zX hc];refine af (ax ?_);rw [if_neg (by decide)];refine af ((h _ _ A _ _ _ _ _ _ hA S F).step e1 fun a s1 ρ1 S1 V1 r1=> ?_);rw [(sf F.ev _ _).trans (hw env)];refine af (ax ?_);have F1:=F.dP V1;obtain⟨vs,a,ep,ha,rs,rfl⟩:=r1.tupI hx;have DI:names.length=vs.toArray.size:=by
  rw [fW, <- rs.length,hl, <- ht.length, <- hr,List.length_reverse]
 refine aj (show wpAny _ _ (do rule "assign.swapped-stores";let items <- unpackItems (.ref a) names.length none;assignInOrder (names.reverse.map fun n=>bindName env n) items.reverse;pure Flow.next) _ _ _ from ?_);refine aN (wpAny_rule (aN ?_));rw [DI];refine unpackItems_tuple hA.2.2 ⟨_,ha,rfl,_,rfl⟩ fun h' he=> ?_;have hs:Sub s1.heap h':=fun b o e=>he b o (fun q=>by rw [q,cA] at e;cases e) e;have V0:dh fk s1 ρ1 m' {s1 with heap:=h'} ρ1 m':= .grow hs rfl rfl;rw [hr,List.toList_toArray];refine aN (DH ht (S1.grow hs) (F1.dP V0) (rs.mono V0.mono).reverse (by rw [List.length_reverse];exact hl) fun s2 S2 V2 F2=>cP ?_);exact⟨ρ1,S2,(V1.comp V0).weak.comp V2,.next,F2⟩
end
end
section
variable {P:List Value->Prop}{k n:Nat}{fd:FuncData}{ps:List Str}
theorem len0(h:P [])(us:List Value)(e:us.length=0):P us:=List.eq_nil_of_length_eq_zero e▸h
theorem FK(h:∀a us,us.length=n->P (a::us))(us:List Value)(e:us.length=n+1):P us:=by
 cases us with
 |nil=>exact Nat.noConfusion e
 |cons a us=>exact h a us (Nat.succ.inj e)
theorem gE(h:∀a,P [a]):∀us:List Value,us.length=1->P us:=FK fun a=>len0 (h a)
theorem iE(h:∀a b,P [a,b]):∀us:List Value,us.length=2->P us:=FK fun a=>gE (P:=fun us=>P (a::us)) (h a)
theorem p_(h:∀a b c,P [a,b,c]):∀us:List Value,us.length=3->P us:=FK fun a=>iE (P:=fun us=>P (a::us)) (h a)
theorem t6(h:∀a b c d,P [a,b,c,d]):∀us:List Value,us.length=4->P us:=FK fun a=>p_ (P:=fun us=>P (a::us)) (h a)
theorem Sw(h:∀a b c d e,P [a,b,c,d,e]):∀us:List Value,us.length=5->P us:=FK fun a=>t6 (P:=fun us=>P (a::us)) (h a)
theorem aF(hk:ps.length=k)(h:∀us:List Value,us.length=k->bindArgs fd ⟨us, []⟩=pure (ps.zip us)):∀(w:World) (s:Shared) us,(KK w).In s.heap->us.length<=ps.length->ps.length<=us.length+([]:List Value).length->BindsTo s fd ⟨us, []⟩ (ps.zip (us++([]:List Value).drop (us.length+([]:List Value).length-ps.length))):=fun w s us ψ h1 h2=>by
 simp only [List.length_nil,Nat.add_zero,List.drop_nil,List.append_nil] at h2 ⊢;exact BindsTo.of_eq (h us (by exact ZH hk h1 h2))
theorem bN:∀(w:World) ρ n h,(KK w).In h->bI ρ n h [] []:=fun ψ ψ ψ ψ ψ=> .nil
theorem oU{f:Value}:dW n f fun ψ=>MM.fail:=fun ψ ψ ψ ψ ψ ψ ψ ψ ψ ψ ψ ψ=>True.intro
theorem sj{T:Addr}{oc:Value}{od:Option Addr}{v_:Array (Option Value)}{d:Value}{ep:Nat}(hk:ps.length=k+1)(hd:fd.defaults= .ref T)(hT:∀w,(KK w).lookup T=some ⟨oc,od,.seq #[d] ep,v_⟩)
  (h1:∀us:List Value,us.length=k+1->bindArgs fd ⟨us, []⟩=pure (ps.zip us)\/∃kk,bindArgs fd ⟨us, []⟩=seqItems? fd.defaults >>= kk/\kk (some #[d])=pure (ps.zip us))
  (h0:∀us:List Value,us.length=k->∃kk,bindArgs fd ⟨us, []⟩=seqItems? fd.defaults >>= kk/\kk (some #[d])=pure (ps.zip (us++ [d]))):
  ∀(w:World) (s:Shared) us,(KK w).In s.heap->us.length<=ps.length->ps.length<=us.length+ [d].length->BindsTo s fd ⟨us, []⟩ (ps.zip (us++ [d].drop (us.length+ [d].length-ps.length))):=fun w s us X a b=>by
 have hl: [d].length=1:=rfl;rw [hl] at b ⊢;have yR:us.length=k\/us.length=k+1:=by exact ZI hk a b
 rcases yR with h|h
 ·obtain⟨kk,e1,e2⟩:=h0 us h;have:us.length+1-ps.length=0:=by exact ZJ hk h
  rw [this];exact BindsTo.of_defaults hd (X _ _ (hT w)) rfl e1 e2
 ·have:us.length+1-ps.length=1:=by exact ZK hk h
  rw [this];simp only [List.drop_succ_cons,List.drop_zero,List.append_nil];rcases h1 us h with e|⟨kk,e1,e2⟩
  ·exact BindsTo.of_eq e
  ·exact BindsTo.of_defaults hd (X _ _ (hT w)) rfl e1 e2
theorem UN{k:Int}{t:Tok}:∀(w:World) ρ n h,(KK w).In h->bI ρ n h [.int k] [.int k t]:=fun ψ ψ ψ ψ ψ=> .cons (.int _ _) .nil
section
variable {n:Nat}{sg:Sg}
theorem FL{aU iter dy:Expr}{ifs:List Expr}{sc:Scope}{pos p p':Pos}{a:Nat}{c:av->MM MV}(i:Nat){x:Str}(hk:sg.ks[i]? =some x)(hl:sg.nm.lookup x=some .cell)
  (h:cD n sg (.ListComp dy [⟨aU,iter,ifs,a⟩] sc pos) c):fX n sg (.Assign [.Name x p] (.ListComp dy [⟨aU,iter,ifs,a⟩] sc pos) p') (SM.use c (SM.put i)):=by
 intro prog w A g env fr s ρ m hA S F;refine .use fun v m1 e1=> ?_;have UO:∀line,swapsWith (.ListComp dy [⟨aU,iter,ifs,a⟩] sc pos) (some (.Name x p)) line env=pure false:=fun line=>by
  have hk:env.kindOf x=some .cell:=by unfold Env.kindOf;rw [F.ev.nm];exact hl
  refine E4.trans (congrArg pure ?_);rw [hk];cases(env.blockKind== .function) <;> rfl
 refine lB ((h _ _ A _ _ _ _ _ _ hA S F).step e1 fun a s1 ρ1 S1 V1 r1=> ?_) (UO _);exact aj (nt i S1 (F.dP V1) hk r1 fun s2 S2 V2 ψ F2=>⟨ρ1,S2,V1.weak.comp V2,.next,F2⟩)
end
noncomputable def Np:List MV->MM MV:=yd fun x y m=>x.uW.bind fun x=>y.ig.bind fun i=>if x=⟨#[]⟩ then(m.ob i).gQ.bind fun xs=>(strsOf xs).bind fun ns=>if JoinOk x ns=true then some (.str (Txt.join x ns),m) else none else none
theorem Nq:dW 0 (.builtin "str.join") Np:=Ig fun prog w A g s ρ m x y v u hA S r r2=> .opt fun x hx=> .opt fun i hi=> .ite fun ψ=> .opt fun xs q1=> .opt fun ns q2=> .ite fun hz=>by
 obtain⟨_,rfl⟩:=r.w9 hx;obtain⟨hi,rfl⟩:=r2.ij hi;obtain⟨us,ep,ho,rs⟩:=S.lst hi (MO.jN q1);obtain⟨ps,rfl,rfl⟩:=rs.strs q2;exact aj (SC.join (l:=ps) ⟨_,ho,rfl,_,rfl⟩ rfl hz fun t' k=>gM S (.str _ _))
end
section
open AutoSeq1 (wpAny_loadPart')
variable {e it:Addr}{i kk:Nat}{c:UInt8}{Q:Value->Shared->Prop}{old:Value}{es:List Expr}{tp:Pos}
section
variable {prog:Program}{w:World}{A:Around}{E:Value->Shared->Prop}{s:Shared}{b:Array UInt8}{t:Tok}
theorem ux(hit:KBw.IsBytesIter s.heap it b t i)(hx:b[i]? =some c)
  (hQ:∀h',KBw.IsBytesIter h' it b t (i+1)->Heap.SameBut it s.heap h'->Q (.int (c.toNat:Int) s.toks) {s with heap:=h',toks:=s.toks+1}):wpAny (model prog w) A (Builtin.SmallTypes.nextOf (.ref it)) Q E s:=by
 obtain⟨o,ho,hc,hd⟩:=id hit;unfold Builtin.SmallTypes.nextOf;refine aN (wpAny_callSpecial?_slot (name:=PySem.Str.ofString "__next__") (KBw.iter_typeIs hit) KBw.slot_next
  (wpAny_call_entry KBw.slot_next (KBw.iter_typeIs hit) KBw.entry_next ?_ (KBw.args_next _)))
 show wpAny _ _ (field (.ref it) 0 >>= _) _ _ s;refine aN (wpAny_field ho hd (x:= .bytes b t) rfl ?_);show wpAny _ _ (if(Value.bytes b t==Value.none)=true then _ else _) _ _ s;rw [if_neg (show¬((Value.bytes b t==Value.none)=true) from Bool.false_ne_true)];show wpAny _ _ (field (.ref it) 1 >>= _) _ _ s;refine aN (wpAny_field ho hd (x:= .int i 0) rfl ?_);refine aN (wpAny_of_eq (a:=b) rfl ?_);simp only [Int.toNat_natCast,hx];refine wpAny_bind (wpAny_setField ho hd (by simp) (wpAny_bind (wpAny_mkInt (wpAny_pure ⟨_,rfl,wpAny_pure (hQ _ ?_ (Heap.SameBut.update ..))⟩))));exact⟨_,Heap.get?_update_self _ ho (Obj.isFreed_of_fields (Obj.data_mapFields hd _)),(Obj.cls_mapFields ..).trans hc,by
  rw [Obj.data_mapFields hd];simp [rawInt]⟩
theorem vx(hh:A.handled=none)(hit:KBw.IsBytesIter s.heap it b t i)(hx:b[i]? =none)
  (hE:∀h' e,Heap.ExtBut it s.heap h'->(∃o,h'.get? e=some o/\o.cls= .type "StopIteration")->E (.ref e) {s with heap:=h'}):wpAny (model prog w) A (Builtin.SmallTypes.nextOf (.ref it)) Q E s:=by
 obtain⟨o,ho,hc,hd⟩:=id hit;unfold Builtin.SmallTypes.nextOf;refine aN (wpAny_callSpecial?_slot (name:=PySem.Str.ofString "__next__") (KBw.iter_typeIs hit) KBw.slot_next
  (wpAny_call_entry KBw.slot_next (KBw.iter_typeIs hit) KBw.entry_next ?_ (KBw.args_next _)))
 show wpAny _ _ (field (.ref it) 0 >>= _) _ _ s;refine aN (wpAny_field ho hd (x:= .bytes b t) rfl ?_);show wpAny _ _ (if(Value.bytes b t==Value.none)=true then _ else _) _ _ s;rw [if_neg (show¬((Value.bytes b t==Value.none)=true) from Bool.false_ne_true)];show wpAny _ _ (field (.ref it) 1 >>= _) _ _ s;refine aN (wpAny_field ho hd (x:= .int i 0) rfl ?_);refine aN (wpAny_of_eq (a:=b) rfl ?_);simp only [Int.toNat_natCast,hx];refine wpAny_bind (wpAny_rule (wpAny_bind (wpAny_setField ho hd (by simp) ?_)));show wpAny _ _ (newExc (.type "StopIteration") [] >>= _) _ _ _;refine aN ?_;refine aN (wpAny_newObj_type ?_ (by size_fits));refine wpAny_bind (m:=firstArgMember _ _) (wpAny_of_eq (a:=Value.none) (by first|rfl|(simp only [firstArgMember];rfl)) ?_);refine wpAny_newObj_type ?_ (by size_fits);refine wpAny_raiseNew_none hh ?_;exact hE _ _ (((Heap.SameBut.update ..).extBut.push _).push _) ⟨_,iQ _ rfl,rfl⟩
theorem FN
  (he:IsEnum s.heap e it i old)(hit:KBw.IsBytesIter s.heap it b t i)(hx:b[i]? =some c)(iZ:e≠it)
  (hQ:∀h' u u' tk,IsEnumOut h' e it ((i:Int)+1) (.int (c.toNat:Int) u) s.heap.objs.size->KBw.IsBytesIter h' it b t (i+1)->
   h'.get? s.heap.objs.size=some {cls:= .type "tuple",data:= .seq #[.int i u',.int (c.toNat:Int) u]}->
   (∀b o,b≠e->b≠it->s.heap.get? b=some o->h'.get? b=some o)->Q (.ref s.heap.objs.size) {s with heap:=h',toks:=tk}):
  wpAny (model prog w) A (Builtin.«enumerate.__next__» ⟨[.ref e], []⟩) (fun fin s'=>∃v,fin= .done (.ret v)/\Q v s') E s:=by
 obtain⟨hp,g,d,tk,os⟩:=s;show wpAny _ _ (field (.ref e) 2 >>= _) _ _ _;refine aN (wpAny_field he rfl (x:= .ref it) rfl ?_);refine aN (ux hit hx fun h₁ Sx KI=> ?_)
 replace KI:Heap.SameBut it hp h₁:=KI
 have Ql:IsEnum h₁ e it i old:=(KI.2 e iZ).trans he;show wpAny _ _ (field (.ref e) 3 >>= _) _ _ ⟨h₁,g,d,tk+1,os⟩;refine aN (wpAny_field Ql rfl (x:=rawInt i) rfl ?_);show wpAny _ _ (field (.ref e) 4 >>= _) _ _ ⟨h₁,g,d,tk+1,os⟩;refine aN (wpAny_field Ql rfl (x:= .none) rfl ?_);show wpAny _ _ (mkInt i >>= _) _ _ ⟨h₁,g,d,tk+1,os⟩;refine aN (wpAny_mkInt ?_);show wpAny _ _ (setField (.ref e) 3 (rawInt ((i:Int)+1)) >>= _) _ _ ⟨h₁,g,d,tk+1+1,os⟩;refine wpAny_bind (wpAny_setField_rec Ql (by simp) fun h₂ Qm KJ=> ?_)
 replace KJ:Heap.SameBut e h₁ h₂:=KJ
 replace Qm:IsEnum h₂ e it ((i:Int)+1) old:=Qm
 show wpAny _ _ (setField (.ref e) 4 .none >>= _) _ _ ⟨h₂,g,d,tk+1+1,os⟩;refine wpAny_bind (wpAny_setField_rec Qm (by simp) fun h₃ Qn KN=> ?_)
 replace KN:Heap.SameBut e h₂ h₃:=KN
 replace Qn:IsEnum h₃ e it ((i:Int)+1) old:=Qn
 show wpAny _ _ (newTuple [.int i (tk+1),.int (c.toNat:Int) tk] >>= _) _ _ ⟨h₃,g,d,tk+1+1,os⟩;refine aN (wpAny_newTuple ?_);have Qo:IsEnum (h₃.push {cls:= .type "tuple",data:= .seq #[.int i (tk+1),.int (c.toNat:Int) tk]}) e it ((i:Int)+1) old:=gS _ Qn;generalize Qp:h₃.push {cls:= .type "tuple",data:= .seq #[.int i (tk+1),.int (c.toNat:Int) tk]}=h₄ at Qo;have hsz:h₃.objs.size=hp.objs.size:=by rw [KN.1,KJ.1,KI.1]
 have DJ:e<hp.objs.size:=Heap.lt_size he;have ht₄:h₄.get? hp.objs.size=some {cls:= .type "tuple",data:= .seq #[.int i (tk+1),.int (c.toNat:Int) tk]}:=by rw [<- Qp, <- hsz];exact iQ _ rfl
 have hk₄:∀b o,b≠e->b≠it->hp.get? b=some o->h₄.get? b=some o:=fun b o Ir UP hb=>by
  rw [<- Qp];exact gS _ (KN.extBut b o Ir (KJ.extBut b o Ir (KI.extBut b o UP hb)))
 have Nr:it≠e:=Ne.symm iZ;have adP:KBw.IsBytesIter h₄ it b t (i+1):=by
  rw [<- Qp];obtain⟨o,ho,r⟩:=Sx;exact⟨o,gS _ (KN.extBut _ _ Nr (KJ.extBut _ _ Nr ho)),r⟩
 show wpAny _ _ (Builtin.SmallTypes.ownedTupleIsFree (.ref e) >>= _) _ _ ⟨h₄,g,d,tk+1+1,os⟩;rw [hsz];clear Qp Qn KN Qm KJ Ql KI Sx hsz h₃ h₂ h₁;refine aN ?_;unfold Builtin.SmallTypes.ownedTupleIsFree;refine aN (wpAny_field Qo rfl (x:= .none) rfl (cP ?_));simp only [if_true];refine aN (wpAny_rule ?_);refine aN (wpAny_field Qo rfl (x:=old) rfl ?_);refine wpAny_bind (wpAny_setField_rec Qo (by simp) fun h₅ UQ Nt=> ?_)
 replace Nt:Heap.SameBut e h₄ h₅:=Nt
 replace UQ:IsEnum h₅ e it ((i:Int)+1) (.int (c.toNat:Int) tk):=UQ
 show wpAny _ _ (Builtin.SmallTypes.ownedTupleHandOut (.ref e) (.ref hp.objs.size) >>= _) _ _ ⟨h₅,g,d,tk+1+1,os⟩;refine aN ?_;unfold Builtin.SmallTypes.ownedTupleHandOut;refine wpAny_bind (wpAny_setField_rec UQ (by simp) fun h₆ UR Nu=> ?_)
 replace Nu:Heap.SameBut e h₅ h₆:=Nu
 replace UR:IsEnumOut h₆ e it ((i:Int)+1) (.int (c.toNat:Int) tk) hp.objs.size:=UR
 refine wpAny_setField_rec UR (by simp) fun h₇ US Nv=> ?_
 replace Nv:Heap.SameBut e h₆ h₇:=Nv
 replace US:IsEnumOut h₇ e it ((i:Int)+1) (.int (c.toNat:Int) tk) hp.objs.size:=US
 refine aN (wpAny_letGo (cP ⟨_,rfl,hQ h₇ tk (tk+1) _ US ?_ ?_ ?_⟩))
 ·obtain⟨o,ho,r⟩:=adP;exact⟨o,Nv.extBut _ _ Nr (Nu.extBut _ _ Nr (Nt.extBut _ _ Nr ho)),r⟩
 ·exact Nv.extBut _ _ (Nat.ne_of_gt DJ) (Nu.extBut _ _ (Nat.ne_of_gt DJ) (Nt.extBut _ _ (Nat.ne_of_gt DJ) ht₄))
 ·exact fun b o Ir UP hb=>Nv.extBut b o Ir (Nu.extBut b o Ir (Nt.extBut b o Ir (hk₄ b o Ir UP hb)))
theorem uy{Q:Option Value->Shared->Prop}
  (he:IsEnum s.heap e it i old)(hit:KBw.IsBytesIter s.heap it b t i)(hx:b[i]? =some c)(iZ:e≠it)
  (hQ:∀h' u u' tk,IsEnumOut h' e it ((i:Int)+1) (.int (c.toNat:Int) u) s.heap.objs.size->KBw.IsBytesIter h' it b t (i+1)->
   h'.get? s.heap.objs.size=some {cls:= .type "tuple",data:= .seq #[.int i u',.int (c.toNat:Int) u]}->
   (∀b o,b≠e->b≠it->s.heap.get? b=some o->h'.get? b=some o)->Q (some (.ref s.heap.objs.size)) {s with heap:=h',toks:=tk}):
  wpAny (model prog w) A (pyNext (.ref e)) Q E s:=by
 have hT:s.TypeIs (.ref e) "enumerate":=⟨_,he,rfl⟩;exact aN (wpAny_attempt (wpAny_callSpecial?_slot (name:=Str.ofString "__next__") hT F.slot_enumerate_next
  (wpAny_call_entry F.slot_enumerate_next hT F.entry_enumerate_next
   (FN he hit hx iZ fun h' u u' tk a b c k=>cP (hQ h' u u' tk a b c k)) (F.args_enumerate_next_1 _))))
theorem vy{Q:Option Value->Shared->Prop}(hh:A.handled=none)
  (he:IsEnum s.heap e it i old)(hit:KBw.IsBytesIter s.heap it b t i)(hx:b[i]? =none)
  (hQ:∀h',Heap.ExtBut it s.heap h'->Q none {s with heap:=h'}):wpAny (model prog w) A (pyNext (.ref e)) Q E s:=by
 have hT:s.TypeIs (.ref e) "enumerate":=⟨_,he,rfl⟩;refine aN (wpAny_attempt (wpAny_callSpecial?_slot (name:=Str.ofString "__next__") hT F.slot_enumerate_next
  (wpAny_call_entry F.slot_enumerate_next hT F.entry_enumerate_next ?_ (F.args_enumerate_next_1 _))))
 show wpAny _ _ (field (.ref e) 2 >>= _) _ _ _;refine aN (wpAny_field he rfl (x:= .ref it) rfl ?_);refine aN (vx hh hit hx fun h' x UT Uc=> ?_);obtain⟨o,ho,hc⟩:=Uc;refine aN (wpAny_isInstance (T:="StopIteration") (b:=true) ⟨o,ho,hc⟩ isSubtype_stop ?_);exact cP (hQ _ UT)
end
theorem Bk{M:Model}{A:Around}{b:Bool}{Q:Bool->Shared->Prop}{E:Value->Shared->Prop}{s:Shared}(h0:Q false s)(h1:Q true s):wpAny M A (pure b) Q E s:=cP (by cases b;exact h0;exact h1)
set_option maxHeartbeats 1000000 in
theorem wF(x:Array UInt8)(t:Tok):
  Meets (Builtin.«enumerate.__new__» ⟨[.type "enumerate",.bytes x t], []⟩) (fun ψ R s=>
   R (.ok (.ret (.ref (s.heap.push {cls:= .type "bytes_iterator",data:= .fields #[.bytes x t,.int 0 0]}).objs.size)))
    {s with heap:=(s.heap.push {cls:= .type "bytes_iterator",data:= .fields #[.bytes x t,.int 0 0]}).push {cls:= .type "enumerate",data:= .fields #[.none,.bool false,.ref s.heap.objs.size,rawInt 0,.none,.none]}}):=
 .of_wp fun prog w A R s h=>by
  obtain⟨hp,g,d,tk,os⟩:=s;have rM:=sub_enumerate
  wp_walk
  refine wpAny_stack_any fun st=>Bk ?_ ?_
  ·wp_walk using KBw.pyIter_bytes
   exact⟨_,rfl,h⟩
  ·wp_walk using KBw.pyIter_bytes
   exact⟨_,rfl,h⟩
noncomputable def enumSrc(x:MV):MM Src:=fun m=>x.qn.bind fun b=>some (⟨fun ψ=>some b.length,fun k ψ=>b[k]?.map fun c=> .tup [.int (k:Int),.int (c.toNat:Int)]⟩,m)
theorem It{prog:Program}{w:World}{g:Heap}{A:Around}{b:List UInt8}{t:Tok}{J:Addr}{ρ0:Nat->Addr}{n0:Nat}(hh:A.handled=none)(iZ:e≠J):
  kP prog w g A (.Tuple es kk tp) ⟨fun ψ=>some b.length,fun k ψ=>b[k]?.map fun c=> .tup [.int (k:Int),.int (c.toNat:Int)]⟩ b.length (.ref e) (fun a=>a=e\/a=J)
   (fun k h=>(∃old,IsEnum h e J (k:Int) old)/\KBw.IsBytesIter h J b.toArray t k) (fun k h u=>(∃old T,u= .ref T/\IsEnumOut h e J (k:Int) old T)/\KBw.IsBytesIter h J b.toArray t k) ρ0 n0 where
 u6:=fun k h h' q kp=>⟨q.1.imp fun ψ=>kp _ _ (.inl rfl),q.2.imp fun ψ a=>⟨kp _ _ (.inr rfl) a.1,a.2⟩⟩
 ex:=fun k h q c hc=>hc.elim (fun z=>q.1.elim fun ψ a=>⟨_,z▸a,iq rfl rfl rfl⟩) fun z=>q.2.imp fun ψ a=>⟨z▸a.1,iq a.2.1 rfl rfl⟩
 PF:=fun k h u q c hc=>hc.elim (fun z=>q.1.elim fun ψ a=>a.elim fun ψ a=>⟨_,z▸a.2,iq rfl rfl rfl⟩) fun z=>q.2.imp fun ψ a=>⟨z▸a.1,iq a.2.1 rfl rfl⟩
 next:=fun s ρ m k v K hk S h4 h5 h6 h7 hI H q=>by
  obtain⟨⟨old,a⟩,hit⟩:=hI;cases hc:b[k]? with
  |none=>simp only [hc] at h7;cases h7
  |some c=>
   simp only [hc,Option.map_some,Option.some.injEq] at h7;subst h7;refine aj (uy a hit (c:=c) (by simpa using hc) iZ fun h' u u' tk he hJ hT CC=> ?_);refine q (.ref s.heap.objs.size) _ ⟨fun x o hx e=>CC x o (fun z=>hx (.inl z)) (fun z=>hx (.inr z)) e,rfl,rfl⟩ ⟨⟨_,_,rfl,by push_cast;exact he⟩,hJ⟩ ?_;exact .tup (vs:= [.int k u',.int (c.toNat:Int) u]) (e:=0) hT (.cons (.int _ _) (.cons (.int _ _) .nil))
 done:=fun s ρ m K S h4 h5 h6 hI H q=>by
  obtain⟨⟨old,a⟩,hit⟩:=hI;refine aj (vy hh a hit (by simp) fun h' he=> ?_);exact q _ ⟨fun x o hx e=>he x o (fun z=>hx (.inr z)) e,rfl,rfl⟩
 self:=fun k s K hI q=>hI.1.elim fun ψ a=>aj (wpAny_pyIter_enum a q)
 quiet:=fun k s u K hI q=>by
  obtain⟨⟨old,T,hu,a⟩,o,ho,r⟩:=hI;subst hu;refine aj (wpAny_letOwnedTupleGo_enum a fun h' he hs=> ?_);exact q _ ⟨fun x o hx e=>(hs.2 x (fun z=>hx (.inl z))).trans e,rfl,rfl⟩ ⟨⟨_,he⟩,o,(hs.2 J (Ne.symm iZ)).trans ho,r⟩
section
variable {n:Nat}{sg:Sg}
theorem zZ{e:Expr}{p pos:Pos}{c:av->MM MV}(qp:("enumerate":Str)∈sg.gs)(hv:bF "enumerate" (.fn (.type "enumerate")))(h:cD n sg e c)(hs:∀env,starEach [e] env= [(false,eval e env)]):
  ET n sg (.Tuple es kk tp) (.Call (.Name "enumerate" p) [e] [] pos) (oC c enumSrc):=by
 intro prog w g A env fr s ρ m hA S F src m' ee k hk K q;obtain⟨x,m1,e1,ee⟩:=MM.bind_some ee;refine iC ((bA (n:=n) (p:=p) qp hv _ _ A _ _ _ _ _ _ hA S F).step (m':=m) rfl fun a s1 ρ1 S1 V1 r1=> ?_);obtain rfl:=r1.rj rfl;have ha:nN n sg [e] _:=eS h ab hs;refine wd ha (fun env=>hs env) (aG rfl) hA S1 (F.dP V1) (xs:= [x]) (m':=m1) (by show MM.bind (c fr) _ m=_;unfold MM.bind;rw [e1];rfl) fun vs s2 ρ2 S2 V2 r2=> ?_;cases r2 with
 |cons r rs=>
  cases rs;obtain⟨b,hb,ee⟩:=bj ee;obtain⟨t,rfl⟩:=r.uX hb;cases ee;cases hk;refine aj (callType_new PySem.F.called_enumerate rfl (PySem.F.typeCall_enumerate_1 _) (PySem.F.newCall_enumerate_1 _) (fun obj=>PySem.F.args_object_init_2 obj _) PySem.F.entry_enumerate_new (wF b.toArray t) ?_);have wy:Sub s2.heap ((s2.heap.push {cls:= .type "bytes_iterator",data:= .fields #[.bytes b.toArray t,.int 0 0]}).push {cls:= .type "enumerate",data:= .fields #[.none,.bool false,.ref s2.heap.objs.size,rawInt 0,.none,.none]}):=fun a o e=>gS _ (gS _ e);have hsz:(s2.heap.push {cls:= .type "bytes_iterator",data:= .fields #[.bytes b.toArray t,.int 0 0]}).objs.size=s2.heap.objs.size+1:=Heap.size_push ..;have hE:((s2.heap.push {cls:= .type "bytes_iterator",data:= .fields #[.bytes b.toArray t,.int 0 0]}).push {cls:= .type "enumerate",data:= .fields #[.none,.bool false,.ref s2.heap.objs.size,rawInt 0,.none,.none]}).get? (s2.heap.push {cls:= .type "bytes_iterator",data:= .fields #[.bytes b.toArray t,.int 0 0]}).objs.size=some {cls:= .type "enumerate",data:= .fields #[.none,.bool false,.ref s2.heap.objs.size,rawInt 0,.none,.none]}:=iQ _ rfl;have n1:s2.heap.get? (s2.heap.push {cls:= .type "bytes_iterator",data:= .fields #[.bytes b.toArray t,.int 0 0]}).objs.size=none:=by
   rw [hsz];cases z:s2.heap.get? (s2.heap.objs.size+1) with
   |none=>rfl
   |some o=>exact absurd (Heap.lt_size z) (Nat.not_lt.mpr (Nat.le_succ _))
  refine⟨⟨_,hE,rfl⟩, ?_⟩;refine aj (wpAny_pyIter_enum (i:=0) (old:= .none) (e:=(s2.heap.push {cls:= .type "bytes_iterator",data:= .fields #[.bytes b.toArray t,.int 0 0]}).objs.size) (it:=s2.heap.objs.size) hE ?_);have V:dh fk s1 ρ1 m _ ρ2 m':=V2.comp (.grow (s':= {s2 with heap:=(s2.heap.push {cls:= .type "bytes_iterator",data:= .fields #[.bytes b.toArray t,.int 0 0]}).push {cls:= .type "enumerate",data:= .fields #[.none,.bool false,.ref s2.heap.objs.size,rawInt 0,.none,.none]}}) wy rfl rfl);refine q _ _ ρ2 (fun a=>a=(s2.heap.push {cls:= .type "bytes_iterator",data:= .fields #[.bytes b.toArray t,.int 0 0]}).objs.size\/a=s2.heap.objs.size) _ _ (S2.grow wy) (V1.comp V) (fun a ha=> ?_) ⟨⟨_,hE⟩,⟨_,gS _ (iQ _ rfl),rfl,rfl⟩⟩ (It (t:=t) hA.2.2 (by rw [hsz];exact Nat.succ_ne_self _));have n2:s2.heap.get? a=none:=by
   rcases ha with rfl|rfl
   ·exact n1
   ·exact cA _
  exact⟨V1.old (V2.old n2),S2.lC n2⟩
end
end
section
variable {fd:FuncData}{oc:Value}{od:Option Addr}{v_:Array (Option Value)}{n:Nat}{f:Addr}
theorem FO{ps:List Str}{k:Nat}{T:Addr}{d1 d2:Value}{ep:Nat}(hk:ps.length=k+2)(hd:fd.defaults= .ref T)(hT:∀w,(KK w).lookup T=some ⟨oc,od,.seq #[d1,d2] ep,v_⟩)
  (h2:∀us:List Value,us.length=k+2->∃kk,bindArgs fd ⟨us, []⟩=seqItems? fd.defaults >>= kk/\kk (some #[d1,d2])=pure (ps.zip us))
  (h1:∀us:List Value,us.length=k+1->∃kk,bindArgs fd ⟨us, []⟩=seqItems? fd.defaults >>= kk/\kk (some #[d1,d2])=pure (ps.zip (us++ [d2])))
  (h0:∀us:List Value,us.length=k->∃kk,bindArgs fd ⟨us, []⟩=seqItems? fd.defaults >>= kk/\kk (some #[d1,d2])=pure (ps.zip (us++ [d1,d2]))):
  ∀(w:World) (s:Shared) us,(KK w).In s.heap->us.length<=ps.length->ps.length<=us.length+ [d1,d2].length->BindsTo s fd ⟨us, []⟩ (ps.zip (us++ [d1,d2].drop (us.length+ [d1,d2].length-ps.length))):=fun w s us X a b=>by
 have hl: [d1,d2].length=2:=rfl;rw [hl] at b ⊢;have yR:us.length=k\/us.length=k+1\/us.length=k+2:=by exact Xr hk a b
 rcases yR with h|h|h
 ·obtain⟨kk,e1,e2⟩:=h0 us h;rw [show us.length+2-ps.length=0 by exact Xs hk h];exact BindsTo.of_defaults hd (X _ _ (hT w)) rfl e1 e2
 ·obtain⟨kk,e1,e2⟩:=h1 us h;rw [show us.length+2-ps.length=1 by exact Xu hk h];exact BindsTo.of_defaults hd (X _ _ (hT w)) rfl e1 e2
 ·obtain⟨kk,e1,e2⟩:=h2 us h;rw [show us.length+2-ps.length=2 by exact Xv hk h];simp only [List.drop_succ_cons,List.drop_zero,List.append_nil];exact BindsTo.of_defaults hd (X _ _ (hT w)) rfl e1 e2
def nH(n:Nat)(f:Value)(pre:Nat)(names:List Str)(c:List MV->MM MV):Prop:=
 ∀prog w A g s ρ m xs vs,dj n A->OK prog w g s ρ m->bI ρ m.n s.heap xs vs->j5 prog w g A (.call f ⟨vs.take pre,names.zip (vs.drop pre)⟩) (c xs m) s ρ m
noncomputable def FQ(sel:List MV->Option (List MV))(r:Nat)(c:SM):List MV->MM MV:=fun xs m=>(sel xs).bind fun ys=>endOf (c (ys.map some++List.replicate r none) m)
theorem KO{body:List Stmt}{c:SM}(ps rest gs:List Str)(pre:Nat)(names:List Str)(sel:List MV->Option (List MV))
  (hf:∀w,(KK w).lookup f=some ⟨oc,od,.func fd,v_⟩)(hb:fd.body= .stmts body)(qh:∀w,codeIn (KK w) fd.code fd.qualname=true)(zg:fd.globals=mainGlobals)(zh:fd.builtins=builtinsNs)(uV:fd.closure= [])
  (adR:∀w (s:Shared) ρ n xs vs ys,(KK w).In s.heap->bI ρ n s.heap xs vs->sel xs=some ys->∃us,bI ρ n s.heap ys us/\ps.length=us.length/\BindsTo s fd ⟨vs.take pre,names.zip (vs.drop pre)⟩ (ps.zip us))
  (u_:BO ⟨ps++rest,gs,fd.scope.names⟩ fd.scope=true)(hS:qR n ⟨ps++rest,gs,fd.scope.names⟩ body c):nH (n+1) (.ref f) pre names (FQ sel rest.length c):=by
 intro prog w A g s ρ m xs vs hA S r;show j5 prog w g A _ (Option.bind _ _) s ρ m;cases AZ:sel xs with
 |none=>exact True.intro
 |some ys=>
  obtain⟨us,hr,hlen,qk⟩:=adR w s ρ m.n xs vs ys S.now.X r AZ;exact j5.endOf fun e rP=>xg (S.now.X _ _ (hf w)) rfl hb (codeRec_of S.now.X (qh w)) zg zh uV qk u_ hlen hS hA S hr e rP
theorem DL{C:Addr}{names:List Str}{ci:List MV->MM MV}(M:mZ C f)(h:nH n (.ref f) 1 names ci):nH (n+1) (.ref C) 0 names (Jo C ci):=by
 intro prog w A g s ρ m xs vs hA S r;show j5 prog w g A _ (Option.bind _ _) s ρ m;cases e1:ci (.obj m.n::xs) ((m.new (.inst C)).new (.dO [])) with
 |none=>exact True.intro
 |some z=>
 obtain⟨z,m'⟩:=z;cases z <;> try exact True.intro
 obtain⟨PS,PT,PU⟩:=M w;have X:=S.now.X;obtain⟨S2,V2⟩:=Fd (C:=C) S;obtain⟨h0,gg,d,t,os⟩:=s;refine My (makes_of X PS) (looks_findIn X PT) (fun self=>bind_fn X self PU) (.inl rfl) ?_;have uc:a_ (eP (eP ρ m.n (h0.objs.size+1)) (m.n+1) h0.objs.size) (m.n+1+1) ((h0.push emptyDict).push (instObj C h0.objs.size)) (.obj m.n) (.ref (h0.objs.size+1)):=by
  have:=a_.obj (ρ:=eP (eP ρ m.n (h0.objs.size+1)) (m.n+1) h0.objs.size) (n:=m.n+1+1) (h:=(h0.push emptyDict).push (instObj C h0.objs.size)) (i:=m.n) (by exact Rc);rw [fC (gA _),ei] at this;exact this
 refine gB ((h _ _ (A.under (.builtin "type.__call__" ⟨.ref C::vs.take 0,names.zip (vs.drop 0)⟩)) _ _ _ _ _ _ hA.under S2 (.cons uc (r.mono V2.mono))).at e1) fun r s' hq=> ?_;obtain⟨v,er,ρ',S',V',q⟩:=hq;subst er;cases q;exact⟨rfl,_,rfl,ρ',S',V2.comp V',uc.mono V'.mono⟩
section
variable {n:Nat}{sg:Sg}
theorem KP{j:Nat}{id:Str}{p pos:Pos}{f:Value}{n1 n2 n3 n4:Str}{i1 i2 i3 i4:Int}{k1 k2 k3 k4:Nat}{p1 p2 p3 p4 q1 q2 q3 q4:Pos}{c:List MV->MM MV}(qp:id∈sg.gs)(hv:bF id (.fn f))(hk:cE f)(hf:nH j f 0 [n1,n2,n3,n4] c)(hj:j<=n):
  cD n sg (.Call (.Name id p) [] [⟨some n1,.Constant (.int i1) k1 p1,q1⟩,⟨some n2,.Constant (.int i2) k2 p2,q2⟩,⟨some n3,.Constant (.int i3) k3 p3,q3⟩,⟨some n4,.Constant (.int i4) k4 p4,q4⟩] pos) fun ψ=>c [.int i1,.int i2,.int i3,.int i4]:=by
 intro prog w A g env fr s ρ m hA S F;refine .of fun b m' e=> ?_;refine af ((bA (n:=n) (p:=p) qp hv _ _ A _ _ _ _ _ _ hA S F).step (m':=m) rfl fun a s1 ρ1 S1 V1 r1=> ?_);obtain rfl:=r1.rj rfl;refine lN (P:=fun h=>(KK w).In h) rfl (fun h X=>hk prog w h X) ?_;have one:∀ {i:Int} {k:Nat} {p:Pos} {s2:Shared} {K:Value->Shared->Prop},OK prog w g s2 ρ1 m->(∀t s3,OK prog w g s3 ρ1 m->dh fk s2 ρ1 m s3 ρ1 m->K (.int i t) s3)->
   ay s2 cX A (model prog w) K (do let v <- eval (.Constant (.int i) k p) env;standAt pos;pure v):=fun {i k p s2 K} S2 q=>by
  refine af (aj (wpAny_Constant_int ?_));refine af (bx (ax (q _ _ (S2.grow (s':= {s2 with toks:=s2.toks+1}) fun ψ ψ e=>e) (.grow (s':= {s2 with toks:=s2.toks+1}) (fun ψ ψ e=>e) rfl rfl))))
 refine af ?_;refine ax ?_;refine af (ax ?_);refine aK ?_;refine af ?_;refine af (one S1 fun t1 s2 S2 V2=> ?_);refine af (aK ?_);refine af (one S2 fun t2 s3 S3 V3=> ?_);refine af (aK ?_);refine af (one S3 fun t3 s4 S4 V4=> ?_);refine af (aK ?_);refine af (one S4 fun t4 s5 S5 V5=> ?_);refine af (aK ?_);refine ax (ax (ax (ax (ax ?_))));refine af (ax (ax ⟨S5.now.X, ?_⟩));refine iH (gB ((hf _ _ A _ _ _ _ [.int i1,.int i2,.int i3,.int i4] [.int i1 t1,.int i2 t2,.int i3 t3,.int i4 t4] (hA.less hj) S5 (.cons (.int _ _) (.cons (.int _ _) (.cons (.int _ _) (.cons (.int _ _) .nil))))).at e) fun r s' ⟨v,er,ρ',S',V',q⟩=> ?_);subst er;exact⟨ρ',S',((((V1.comp V2).comp V3).comp V4).comp V5).comp V',q⟩
end
end
section
variable {tk:Tok}{R:Result->Shared->Prop}{Q:Value->Shared->Prop}
theorem Bl:typeLookup (.type "list") "keys"=pure none:=by rw [typeLookup_type,builtinLookup_eq_fast];kernel_rfl
theorem DM:typeLookup (.type "list") "__getattr__"=pure none:=by rw [typeLookup_type,builtinLookup_eq_fast];kernel_rfl
section
variable {prog:Program}{w:World}{A:Around}{E:Value->Shared->Prop}{h:Heap}{g:Array GenState}{d:Drawn}{t:Nat}{os:OsState}{a:Addr}{vs:List Value}{n:Nat}
theorem wG{Q:Fin->Shared->Prop}(hh:A.handled=none)(hx:h.get? a=some (fO vs n))
  (hq:∀h' t' e,(∀b o,h.get? b=some o->h'.get? b=some o)->(∃o,h'.get? e=some o/\o.cls= .type "AttributeError")->E (.ref e) ⟨h',g,d,t',os⟩):
  wpAny (model prog w) A (Builtin.«object.__getattribute__» ⟨[.ref a,.str "keys" tk], []⟩) Q E ⟨h,g,d,t,os⟩:=by
 have hT:(⟨h,g,d,t,os⟩:Shared).TypeIs (.ref a) "list":=⟨_,hx,rfl⟩;have f4:=Bl
 repeat (any_goals (first|assumption|wp_step))
 refine wpAny_raiseAttrError hh (fun h' tk e N=> ?_) (by decide +kernel);obtain⟨u1,u2,he⟩:=N.there;exact hq _ _ _ N.keeps ⟨_,he,rfl⟩
theorem yg(hh:A.handled=none)(hx:h.get? a=some (fO vs n))
  (hq:∀h' t' e,(∀b o,h.get? b=some o->h'.get? b=some o)->(∃o,h'.get? e=some o/\o.cls= .type "AttributeError")->R (.error (.ref e)) ⟨h',g,d,t',os⟩):
  codeAny (model prog w) A (.call (.builtin "list.__getattribute__") ⟨[.ref a,.str "keys" tk], []⟩) R ⟨h,g,d,t,os⟩:=
 codeAny_call_builtin F.slot_list_getattribute.plain F.entry_list_ga (F.slot_list_getattribute.check _ _ _ _ _ _ _ _ (show(⟨h,g,d,t,os⟩:Shared).TypeIs (.ref a) "list" from⟨_,hx,rfl⟩) (F.args_list_getattribute_2 _ _) (wG hh hx hq))
theorem Bm(hh:A.handled=none)(hx:h.get? a=some (fO vs n))
  (hq:∀h' t' e,(∀b o,h.get? b=some o->h'.get? b=some o)->(∃o,h'.get? e=some o/\o.cls= .type "AttributeError")->E (.ref e) ⟨h',g,d,t',os⟩):
  wpAny (model prog w) A (getAttrBy (.ref a) (.str "keys" tk) false) Q E ⟨h,g,d,t,os⟩:=by
 have hT:(⟨h,g,d,t,os⟩:Shared).TypeIs (.ref a) "list":=⟨_,hx,rfl⟩;have f2:=F.slot_list_getattribute.lookup;have f3:=F.slot_list_getattribute.bind (.ref a);have f4:=DM;have f5:=sub_AttributeError
 repeat (any_goals (first|assumption|wp_step))
 refine yg hh hx fun h' t' e hk hq=> ?_;obtain⟨o,ho,hc⟩:=hq;have hT2:(⟨h',g,d,t',os⟩:Shared).TypeIs (.ref e) "AttributeError":=⟨o,ho,hc⟩
 repeat (any_goals (first|assumption|wp_step))
 exact hq _ _ _ hk ⟨o,ho,hc⟩
theorem yh{Q:Option Value->Shared->Prop}(hh:A.handled=none)(hx:h.get? a=some (fO vs n))
  (hq:∀h' t',(∀b o,h.get? b=some o->h'.get? b=some o)->Q none ⟨h',g,d,t',os⟩):wpAny (model prog w) A (getAttr? (.ref a) "keys") Q E ⟨h,g,d,t,os⟩:=by
 have f5:=sub_AttributeError;unfold getAttr? getAttrBy?;refine aN (wpAny_mkText ?_);refine aN (wpAny_attempt (Bm hh hx fun h' t' e hk hq=> ?_));obtain⟨o,ho,hc⟩:=hq;have hT2:(⟨h',g,d,t',os⟩:Shared).TypeIs (.ref e) "AttributeError":=⟨o,ho,hc⟩
 repeat (any_goals (first|assumption|wp_step))
 exact hq _ _ hk
end
theorem z_:entryFor table "dict.update.loop"=some Builtin.«dict.update.loop»:=entryFor_of_tree (by kernel_rfl)
theorem qB:plainId "dict.update.loop"=true:=by decide +kernel
section
variable {prog:Program}{w:World}{A:Around}{E:Value->Shared->Prop}{s:Shared}{l tt:Addr}{n ep:Nat}{k:Int}{u:Tok}{v:Value}
theorem KQ{d I:Addr}(hh:A.handled=none)(hI:s.heap.IsListIter I l 0)(hl:s.heap.get? l=some (fO [.ref tt] n))(ht:s.heap.get? tt=some (tM [.int k u,v] ep))(hd:s.heap.DictOf (intKind prog w) d [])
  (h1:l≠I)(h2:tt≠I)(h3:d≠I)(h4:l≠d)(h5:I≠d)
  (h:∀h' tk,(∀b o,b≠I->b≠d->s.heap.get? b=some o->h'.get? b=some o)->h'.DictOf (intKind prog w) d [(k,v)]->R (.ok (.ret .none)) {s with heap:=h',toks:=tk}):
  codeAny (model prog w) A (.builtin "dict.update.loop" ⟨[.ref d,.ref I,rawInt 0,.none], []⟩) R s:=by
 have hL:s.heap.IsList l #[.ref tt]:=⟨_,hl,rfl,_,rfl⟩;refine codeAny_builtin z_ ?_;rw [Around.under_plainId qB _];show wpAny _ A.in1 (pyNext (.ref I) >>= _) _ _ s;refine aN (wpAny_pyNext_list_item hI hL (x:= .ref tt) rfl fun ha hIa Qq=> ?_);have hta:ha.get? tt=some (tM [.int k u,v] ep):=(Qq.2 _ h2).trans ht;have hda:ha.DictOf (intKind prog w) d []:=hd.sameBut Qq h3;refine aN (wpAny_holding (aN (wpAny_tryCatch ?_)));show wpAny _ A.in1 (typeOf (.ref tt) >>= _) _ _ _;refine aN (wpAny_typeOf (T:="tuple") ⟨_,hta,rfl⟩ ?_);rw [if_pos (by decide)];refine aN (wpAny_seqItems hta rfl (cP ?_));show wpAny _ A.in1 (holding [.int k u,v] (dictSet d (.int k u) v)) _ _ _;refine wpAny_holding (wpAny_dictSet_pairs (knd:=intKind prog w) (k:=k) (by simp [intKind,Value.isInt]) hda fun hb hdb uf=> ?_);have hIb:hb.IsListIter I l 1:=by obtain⟨o,ho,r⟩:=hIa;exact⟨o,(uf.2 _ h5).trans ho,r⟩
 have hLb:hb.IsList l #[.ref tt]:=by obtain⟨o,ho,r⟩:=hL;exact⟨o,(uf.2 _ h4).trans ((Qq.2 _ h1).trans ho),r⟩
 refine cP ⟨plainId_quiet qB _,codeAny_builtin z_ ?_⟩;rw [Around.under_plainId qB _];show wpAny _ A.in1 (pyNext (.ref I) >>= _) _ _ _;refine aN (wpAny_pyNext_list_end (A:=A.in1) hh hIb hLb rfl fun hc Qr=> ?_);show wpAny _ A.in1 (Builtin.Dict.addKeywords d [] >>= fun ψ=>ret .none) _ _ _;refine aN (cP (cP ?_));refine h hc _ (fun b o KR hb2 e=>Qr b o KR ((uf.2 b hb2).trans ((Qq.2 b KR).trans e))) ?_;obtain⟨o,es,CT,ho,r⟩:=hdb;exact⟨o,es,CT,Qr _ _ h3 ho,r⟩
theorem yi(hh:A.handled=none)(hl:s.heap.get? l=some (fO [.ref tt] n))(ht:s.heap.get? tt=some (tM [.int k u,v] ep))
  (h:∀h' tk,(∀b o,s.heap.get? b=some o->h'.get? b=some o)->h'.DictOf (intKind prog w) s.heap.objs.size [(k,v)]->Q (.ref s.heap.objs.size) {s with heap:=h',toks:=tk}):
  wpAny (model prog w) A (call (.type "dict") [.ref l]) Q E s:=by
 refine callType_codes (Q₁:=fun obj s₁=>obj= .ref s.heap.objs.size/\s₁= {s with heap:=s.heap.push {cls:= .type "dict",data:= .dict #[]}}) PySem.F.kt_called_dict (PySem.F.kt_typeCall_dict_1 _) PySem.F.entry_dict_init (kt_code_dict_new _ ⟨rfl,rfl⟩) ?_;rintro obj s₁ ⟨rfl,rfl⟩;have nQ:(s.heap.push {cls:= .type "dict",data:= .dict #[]}).DictOf (intKind prog w) s.heap.objs.size []:=Heap.DictOf.new s.heap;refine⟨nQ.typeIs,PySem.F.args_dict_init_2 _ _, ?_⟩;unfold Builtin.«dict.__init__»;refine aN ?_;refine aN (wpAny_notOrdered_dict nQ.typeIs ?_);refine cP ?_;show wpAny _ _ (Builtin.Dict.updateFrom "dict.__init__" s.heap.objs.size (.ref l) [] .none) _ _ _;have Kd:(s.heap.push {cls:= .type "dict",data:= .dict #[]}).get? l=some (fO [.ref tt] n):=gS _ hl;refine aN (wpAny_typeOf (T:="list") ⟨_,Kd,rfl⟩ ?_);rw [if_pos (bR rfl)];refine aN (yh (A:=A.in1.in1) hh Kd fun h2 t2 KS=> ?_);rw [if_pos (show(none:Option Value).isNone=true from rfl)];refine aN (wpAny_rule ?_);have Cw:=KS _ _ Kd;refine aN (wpAny_pyIter_list (items:= #[.ref tt]) ⟨_,Cw,rfl,_,rfl⟩ ?_);obtain⟨h3,Iu⟩:∃h3,h3=h2.push {cls:= .type "list_iterator",data:= .fields #[.ref l,.int 0 0]}:=⟨_,rfl⟩;have DN:∀b o,(s.heap.push {cls:= .type "dict",data:= .dict #[]}).get? b=some o->h3.get? b=some o:=fun b o e=>by rw [Iu];exact gS _ (KS _ _ e)
 have hd3:h3.DictOf (intKind prog w) s.heap.objs.size []:=by
  obtain⟨o,es,CT,ho,r⟩:=nQ;exact⟨o,es,CT,DN _ _ ho,r⟩
 have hI3:h3.IsListIter h2.objs.size l 0:=by rw [Iu];exact⟨_,iQ _ rfl,rfl,rfl⟩
 have old:∀b o,s.heap.get? b=some o->b≠h2.objs.size:=fun b o e q=>by
  have:=Heap.lt_size (KS _ _ (gS {cls:= .type "dict",data:= .dict #[]} e));rw [q] at this;exact Nat.lt_irrefl _ this
 have dne:s.heap.objs.size≠h2.objs.size:=by
  obtain⟨o,es,CT,ho,r⟩:=nQ;exact Nat.ne_of_lt (Heap.lt_size (KS _ _ ho))
 have Sy:∀b o,s.heap.get? b=some o->b≠s.heap.objs.size:=fun b o e q=>by rw [q,cA] at e;cases e
 refine cP ⟨plainId_quiet qB _, ?_⟩;refine KQ (s:=⟨h2.push {cls:= .type "list_iterator",data:= .fields #[.ref l,.int 0 0]},_,_,_,_⟩) (l:=l) (tt:=tt) (n:=n) (ep:=ep) (k:=k) (u:=u) (v:=v) hh (Iu▸hI3) (Iu▸DN _ _ Kd) (Iu▸DN _ _ (gS _ ht)) (Iu▸hd3) (old _ _ hl) (old _ _ ht) dne (Sy _ _ hl) (Ne.symm dne) fun h' tk Qs hdd=> ?_;refine⟨rfl,h h' tk (fun b o e=> ?_) hdd⟩;exact Qs b o (old _ _ e) (Sy _ _ e) (Iu▸DN _ _ (gS _ e))
end
noncomputable def pairOf:List MV->Option (Int×MV)
 | [k,x]=>k.int?.bind fun k=>some (k,x)
 |_=>none
noncomputable def JG:List MV->Option (List MV)
 | [x]=>x.BJ
 |_=>none
noncomputable def FR(x:MV):MM MV:=fun m=>x.ig.bind fun i=>(m.ob i).gQ.bind fun xs=>(JG xs).bind fun ys=>(pairOf ys).bind fun kx=>some (.obj m.n,m.new (.dict [kx]))
theorem KU:∀ {xs ys:List MV},JG xs=some ys->∃x,xs= [x]/\x.BJ=some ys
 | [],_,e=>cj e
 | [x],_,e=>⟨x,rfl,e⟩
 |_::_::_,_,e=>cj e
theorem KV:∀ {ys:List MV} {kx:Int×MV},pairOf ys=some kx->∃a b,ys= [a,b]/\(a.int?.bind fun k=>some (k,b))=some kx
 | [],_,e=>cj e
 | [_],_,e=>cj e
 | [a,b],_,e=>⟨a,b,rfl,e⟩
 |_::_::_::_,_,e=>cj e
theorem Iv:dW 0 (.type "dict") (se FR):=zQ fun prog w A g s ρ m x v hA S r=> .opt fun i hi=> .opt fun xs q1=> .opt fun ys q2=> .opt fun kx q3=>by
 obtain⟨hi,rfl⟩:=r.ij hi;obtain⟨us,ep,ho,rs⟩:=S.lst hi (MO.jN q1);obtain⟨x,rfl,q2⟩:=KU q2;obtain⟨u,rfl,r⟩:=rs.one;obtain⟨vs,a,_,ha,Qj,rfl⟩:=r.tupI q2;obtain⟨y,z,rfl,q3⟩:=KV q3;obtain⟨u1,u2,rfl,r1,r2⟩:=Qj.two;obtain⟨k,hk,q3⟩:=bj q3;obtain⟨_,rfl⟩:=r1.iD hk;obtain rfl:=dZ q3;refine aj (yi hA.2.2 ho ha fun h' tk hk hD=> ?_);obtain⟨o,hF,hd⟩:=Heap.dictOf_iff.mp hD;have hc:o.cls= .type "dict":=by
  obtain⟨_,_,hx,_⟩:=hd
  first|exact hx|exact hx.1|exact hx.2
 exact xp S hk hF (cA _) fun M=>⟨hc,⟨gA _,by rw [ei];exact Nat.ne_of_gt S.now.size⟩,_,hd,.cons (r2.mono M) .nil⟩
end
section
variable {M:Model}{A:Around}{E:Value->Shared->Prop}{s:Shared}{env:Env}{h₀:ExceptHandler}{hs:List ExceptHandler}{Q:Flow->Shared->Prop}{body:List Stmt}{p pos:Pos}
theorem tH{body orelse:Sem Flow}
  (h:ay s (fun e s₁=>ay s₁ E A M (fun ψ s₂=>ay s₂ E A M (fun ψ s₃=>ay s₃ E A M Q (handleBy e env (h₀::hs))) (setFlight e none)) (noteFrame e env)) A M (fun f s₁=>match f with| .next=>ay s₁ E A M Q orelse|f=>Q f s₁) body):
  ay s E A M Q (tryStmt false body (h₀::hs) orelse [] env):=by
 refine af (uP (au h (fun f s₁ h₁=> ?_) fun e s₁ h₁=> ?_))
 ·cases f <;> first|exact h₁|exact ax h₁
 ·exact af (au h₁ (fun ψ ψ h₂=>af h₂) fun ψ ψ x=>x)
theorem qZ{orelse:List Stmt}
  (h:ay s (fun e s₁=>ay s₁ E A M (fun ψ s₂=>ay s₂ E A M (fun ψ s₃=>ay s₃ E A M Q (handleBy e env (h₀::hs))) (setFlight e none)) (noteFrame e env)) A M (fun f s₁=>match f with| .next=>ay s₁ E A M Q (execs orelse env)|f=>Q f s₁) (execs body env)):
  ay s E A M Q (exec (.Try body (h₀::hs) orelse [] pos) env):=by
 rw [arm_exec_Try];exact af (bx (tH h))
theorem wH{n:Nat}{sg:Sg}{c:SM}(h:qR n sg body c):fX n sg (.Try body (h₀::hs) [] [] pos) c:=by
 intro prog w A g env fr s ρ m hA S F;refine .of fun f fD m' e=> ?_;refine qZ (au ((h _ _ A _ _ _ _ _ _ hA S F).at e) (fun fl s1 q=> ?_) fun ψ ψ x=>x.elim);cases fl with
 |next=>exact aj (wpAny_execs_nil q)
 |_=>exact q
section
variable {n:Nat}{sg:Sg}
theorem sV(i:Nat){x:Str}(hk:sg.ks[i]? =some x:=by rfl):cD n sg (.Name x p) (Rd i):=dI i hk
theorem sA{e:Expr}{es:List Expr}{c:av->MM MV}{cs:av->MM (List MV)}(h:cD n sg e c)(hs:nN n sg es cs)(he:∀env,starEach (e::es) env=(false,eval e env)::starEach es env:=by exact fun ψ=>rfl):nN n sg (e::es) (AC c cs):=eS h hs he
theorem sC{k:Nat}{id:Str}{args:List Expr}{f:Value}{ca:av->MM (List MV)}{cf:List MV->MM MV}(qp:id∈sg.gs)(hv:bF id (.fn f))(hk:cE f)(ha:nN n sg args ca)(hf:dW k f cf)(hp:Plain args:=by exact fun ψ=>rfl)(HP:k<=n:=by decide):
  cD n sg (.Call (.Name id p) args [] pos) (oC ca cf):=qu qp hv hk ha hp hf HP
end
end
section
noncomputable def gN: {c //aP 1 (.ref 82) c}:=⟨_,aI ["octets"] [] ["sum","enumerate"] [] [] (fun w=>rfl) rfl (fun w=>rfl) rfl rfl rfl bN (aF rfl (gE fun ψ=>rfl)) (by decide +kernel)
 (ar (aT (sC (.head _) Dd (aG rfl) (sA (cZ (own:= ["place","octet"]) (cap:= []) (gs:= []) (idx:= []) (by decide +kernel) (zZ (mi 1 rfl) tR (sV 0) (fun ψ=>rfl)) (fq (.cons (i:=0) rfl (fun ψ=>rfl) (.cons (i:=1) rfl (fun ψ=>rfl) .nil))) c_ (ak (sV 1) (ak ag (sV 0) gD) P6) (fun ψ ψ=>rfl)) ab) DB)))⟩
noncomputable def gO: {c //aP 1 (.ref 87) c}:=⟨_,aI ["number","size"] [] ["bytes","range"] [] [] (fun w=>rfl) rfl (fun w=>rfl) rfl rfl rfl bN (aF rfl (iE fun ψ ψ=>rfl)) (by decide +kernel)
 (ai (bM (fZ (gC ag (sV 0) (ak ag (sV 1) Dn) fQ fR rfl)) (cq cn) bu) (ar (aT (sC (.head _) jr (aG rfl) (sA (cZ (own:= ["place"]) (cap:= ["number"]) (gs:= []) (idx:= [0]) (by decide +kernel) (aY (sC (mi 1 rfl) kz (aG rfl) (sA (sV 1) ab) kD)) (bB 0 rfl (fun ψ=>rfl)) c_ (ak (ak (sV 1) (ak ag (sV 0) gD) P7) ag P8) (fun ψ ψ=>rfl)) ab) ju))))⟩
noncomputable def my: {c //aP 1 (.ref 92) c}:=⟨_,aI ["text"] ["points"] ["all","bytes"] [] [] (fun w=>rfl) rfl (fun w=>rfl) rfl rfl rfl bN (aF rfl (gE fun ψ=>rfl)) (by decide +kernel)
 (ai (qt 1 rfl rfl (by decide +kernel) (own:= ["sign"]) (cap:= []) (gs:= ["ord"]) (idx:= []) (by decide +kernel) (aY (sV 0)) (bB 0 rfl (fun ψ=>rfl)) c_ (sC (.head _) PW (aG rfl) (sA (sV 0) ab) Qe) (fun ψ ψ=>rfl)) (ai (bM (fZ (gu (sC (.head _) De (aG rfl) (sA (cZ (own:= ["point"]) (cap:= []) (gs:= []) (idx:= []) (by decide +kernel) (aY (sV 1)) (bB 0 rfl (fun ψ=>rfl)) c_ (xr ag (sV 0) ag fQ fR rfl) (fun ψ ψ=>rfl)) ab) DF) (fun ψ=>rfl))) (cq cn) bu) (ar (aT (sC (mi 1 rfl) jr (aG rfl) (sA (sV 1) ab) ju)))))⟩
noncomputable def mC: {c //aP 1 (.ref 97) c}:=⟨_,aI ["octets"] [] ["all"] [] [] (fun w=>rfl) rfl (fun w=>rfl) rfl rfl rfl bN (aF rfl (gE fun ψ=>rfl)) (by decide +kernel)
 (ai (bM (fZ (gu (sC (.head _) De (aG rfl) (sA (cZ (own:= ["octet"]) (cap:= []) (gs:= []) (idx:= []) (by decide +kernel) (aY (sV 0)) (bB 0 rfl (fun ψ=>rfl)) c_ (xr ag (sV 0) ag fQ fR rfl) (fun ψ ψ=>rfl)) ab) DF) (fun ψ=>rfl))) (cq cn) bu) (ar (aT (ez cH (sA (cZ (own:= ["octet"]) (cap:= []) (gs:= ["chr"]) (idx:= []) (by decide +kernel) (aY (sV 0)) (bB 0 rfl (fun ψ=>rfl)) c_ (sC (.head _) PX (aG rfl) (sA (sV 0) ab) Qf) (fun ψ ψ=>rfl)) ab) (fun ψ=>rfl) Im Nq (fun ψ=>⟨_,rfl⟩)))))⟩
noncomputable def pD: {c //aP 1 (.ref 111) c}:=⟨_,aI ["self"] [] ["bytearray"] [] [] (fun w=>rfl) rfl (fun w=>rfl) rfl rfl rfl bN (aF rfl (gE fun ψ=>rfl)) (by decide +kernel)
 (ar (bk (sC (.head _) tS (aG rfl) ab Nf) (sV 0) uk rfl))⟩
noncomputable def FU: {c //aP 2 (.ref 142) c}:=⟨_,md MJ pD.2⟩
noncomputable def bJ: {c //aP 2 (.ref 118) c}:=⟨_,aI ["self","number","size"] [] ["octets_of"] [] [] (fun w=>rfl) rfl (fun w=>rfl) rfl rfl rfl bN (aF rfl (p_ fun ψ ψ ψ=>rfl)) (by decide +kernel)
 (ar (bp (ez (aq (sV 0) gL (fun ψ=>rfl)) (sA (sC (.head _) jQ jR (sA (sV 1) (sA (sV 2) ab)) gO.2.fn) ab) (fun ψ=>rfl) FD FI (fun ψ=>⟨_,rfl⟩)) rfl))⟩
noncomputable def pE: {c //aP 3 (.ref 132) c}:=⟨_,aI ["self","text"] ["octets"] ["text_octets","len"] [] [] (fun w=>rfl) rfl (fun w=>rfl) rfl rfl rfl bN (aF rfl (iE fun ψ ψ=>rfl)) (by decide +kernel)
 (ai (bh 2 rfl (sC (.head _) xP xQ (sA (sV 1) ab) my.2.fn) rfl) (ai (bp (aL (sV 0) (sA (sC (mi 1 rfl) ew (aG rfl) (sA (sV 2) ab) ey) (sA ag ab)) (fun ψ=>rfl) (.cons b9 b_ bJ.2.fn (by decide) .nil) (fun ψ=>⟨_,rfl⟩)) rfl) (ar (bp (ez (aq (sV 0) gL (fun ψ=>rfl)) (sA (sV 2) ab) (fun ψ=>rfl) FD FI (fun ψ=>⟨_,rfl⟩)) rfl))))⟩
noncomputable def nV: {c //aP 1 (.ref 139) c}:=⟨_,aI ["self"] [] ["bytes"] [] [] (fun w=>rfl) rfl (fun w=>rfl) rfl rfl rfl bN (aF rfl (gE fun ψ=>rfl)) (by decide +kernel)
 (ar (aT (sC (.head _) jr (aG rfl) (sA (aq (sV 0) gL (fun ψ=>rfl)) ab) ju)))⟩
noncomputable def mD: {c //aP 1 (.ref 161) c}:=⟨_,aI ["self","octets","at"] [] [] [.int 0] _ (fun w=>rfl) rfl (fun w=>rfl) rfl rfl rfl UN (sj (k:=2) rfl rfl (fun w=>rfl) (p_ fun ψ ψ ψ=> .inr ⟨_,rfl,rfl⟩) (iE fun ψ ψ=>⟨_,rfl,rfl⟩)) (by decide +kernel)
 (ai (bk (sV 1) (sV 0) uk rfl) (ar (bk (sV 2) (sV 0) MN rfl)))⟩
noncomputable def Aa: {c //aP 2 (.ref 192) c}:=⟨_,md HX mD.2⟩
noncomputable def j7: {c //aP 1 (.ref 168) c}:=⟨_,aI ["self"] [] ["len"] [] [] (fun w=>rfl) rfl (fun w=>rfl) rfl rfl rfl bN (aF rfl (gE fun ψ=>rfl)) (by decide +kernel)
 (ar (aT (ak (sC (.head _) ew (aG rfl) (sA (aq (sV 0) gL (fun ψ=>rfl)) ab) ey) (aq (sV 0) Di (fun ψ=>rfl)) oR)))⟩
noncomputable def gv: {c //aP 2 (.ref 175) c}:=⟨_,aI ["self","many"] ["found"] ["bytes"] [] [] (fun w=>rfl) rfl (fun w=>rfl) rfl rfl rfl bN (aF rfl (iE fun ψ ψ=>rfl)) (by decide +kernel)
 (ai (bM (aD (sV 1) (aL (sV 0) ab (fun ψ=>rfl) (.cons xY xZ j7.2.fn (by decide) .nil) (fun ψ=>⟨_,rfl⟩)) kY rfl) (cq cn) bu) (ai (bh 2 rfl (sC (.head _) jr (aG rfl) (sA (eA (aq (sV 0) gL (fun ψ=>rfl)) (b8 (aq (sV 0) Di (fun ψ=>rfl))) (b8 (ak (aq (sV 0) Di (fun ψ=>rfl)) (sV 1) bY))) ab) ju) rfl) (ai (bk (ak (aq (sV 0) Di (fun ψ=>rfl)) (sV 1) bY) (sV 0) MN rfl) (ar (aT (sV 2))))))⟩
noncomputable def bq: {c //aP 3 (.ref 182) c}:=⟨_,aI ["self","size"] [] ["number_of"] [] [] (fun w=>rfl) rfl (fun w=>rfl) rfl rfl rfl bN (aF rfl (iE fun ψ ψ=>rfl)) (by decide +kernel)
 (ar (aT (sC (.head _) jO jP (sA (aL (sV 0) (sA (sV 1) ab) (fun ψ=>rfl) (.cons qV qW gv.2.fn (by decide) .nil) (fun ψ=>⟨_,rfl⟩)) ab) gN.2.fn)))⟩
noncomputable def mE: {c //aP 4 (.ref 189) c}:=⟨_,aI ["self"] [] ["octets_text"] [] [] (fun w=>rfl) rfl (fun w=>rfl) rfl rfl rfl bN (aF rfl (gE fun ψ=>rfl)) (by decide +kernel)
 (ar (aT (sC (.head _) xR xS (sA (aL (sV 0) (sA (aL (sV 0) (sA ag ab) (fun ψ=>rfl) (.cons bV bW bq.2.fn (by decide) .nil) (fun ψ=>⟨_,rfl⟩)) ab) (fun ψ=>rfl) (.cons qV qW gv.2.fn (by decide) .nil) (fun ψ=>⟨_,rfl⟩)) ab) mC.2.fn)))⟩
noncomputable def uz: {c //aP 1 (.ref 203) c}:=⟨_,aI ["octets","size"] [] ["len","bytes"] [] [] (fun w=>rfl) rfl (fun w=>rfl) rfl rfl rfl bN (aF rfl (iE fun ψ ψ=>rfl)) (by decide +kernel)
 (ai (bM (aD (sC (.head _) ew (aG rfl) (sA (sV 0) ab) ey) (sV 1) kY rfl) (cq cn) bu) (ar (aT (ak (sC (mi 1 rfl) jr (aG rfl) (sA (sV 0) ab) ju) (sC (mi 1 rfl) jr (aG rfl) (sA (ak (sV 1) (sC (.head _) ew (aG rfl) (sA (sV 0) ab) ey) oR) ab) ju) bY))))⟩
noncomputable def jS: {c //aP 1 (.ref 219) c}:=⟨_,aI ["self","sort","guid","children","parity"] [] ["list"] [.tup [],.int 0] _ (fun w=>rfl) rfl (fun w=>rfl) rfl rfl rfl (fun w ρ n h X=> .cons (.tup (vs:= []) (e:=0) (X 211 _ rfl) .nil) (.cons (.int _ _) .nil)) (FO (k:=3) rfl rfl (fun w=>rfl) (Sw fun ψ ψ ψ ψ ψ=>⟨_,rfl,rfl⟩) (t6 fun ψ ψ ψ ψ=>⟨_,rfl,rfl⟩) (p_ fun ψ ψ ψ=>⟨_,rfl,rfl⟩)) (by decide +kernel)
 (ai (bk (sV 1) (sV 0) MP rfl) (ai (bk (sV 2) (sV 0) Fl rfl) (ai (bk (sC (.head _) zp (aG rfl) (sA (sV 3) ab) Fv) (sV 0) Dj rfl) (ar (bk (sV 4) (sV 0) HZ rfl)))))⟩
noncomputable def nW: {c //aP 2 (.ref 227) c}:=⟨_,md MK jS.2⟩
noncomputable def yj: {c //aP 1 (.ref 224) c}:=⟨_,aI ["self"] [] ["tuple"] [] [] (fun w=>rfl) rfl (fun w=>rfl) rfl rfl rfl bN (aF rfl (gE fun ψ=>rfl)) (by decide +kernel)
 (ar (aT (b6 (sA (aq (sV 0) kS (fun ψ=>rfl)) (sA (aq (sV 0) fF (fun ψ=>rfl)) (sA (aq (sV 0) lE (fun ψ=>rfl)) (sA (sC (.head _) nu (aG rfl) (sA (cZ (own:= ["child"]) (cap:= []) (gs:= []) (idx:= []) (by decide +kernel) (aY (aq (sV 0) eK (fun ψ=>rfl))) (bB 0 rfl (fun ψ=>rfl)) c_ (aL (sV 0) ab (fun ψ=>rfl) (.cons kT kW (oU (n:=0)) (by decide) .nil) (fun ψ=>⟨_,rfl⟩)) (fun ψ ψ=>rfl)) ab) sY) ab)))))))⟩
noncomputable def mF: {c //aP 2 (.ref 224) c}:=⟨_,aI ["self"] [] ["tuple"] [] [] (fun w=>rfl) rfl (fun w=>rfl) rfl rfl rfl bN (aF rfl (gE fun ψ=>rfl)) (by decide +kernel)
 (ar (aT (b6 (sA (aq (sV 0) kS (fun ψ=>rfl)) (sA (aq (sV 0) fF (fun ψ=>rfl)) (sA (aq (sV 0) lE (fun ψ=>rfl)) (sA (sC (.head _) nu (aG rfl) (sA (cZ (own:= ["child"]) (cap:= []) (gs:= []) (idx:= []) (by decide +kernel) (aY (aq (sV 0) eK (fun ψ=>rfl))) (bB 0 rfl (fun ψ=>rfl)) c_ (aL (sV 0) ab (fun ψ=>rfl) (.cons kT kW yj.2.fn (by decide) .nil) (fun ψ=>⟨_,rfl⟩)) (fun ψ ψ=>rfl)) ab) sY) ab)))))))⟩
noncomputable def mG: {c //aP 3 (.ref 224) c}:=⟨_,aI ["self"] [] ["tuple"] [] [] (fun w=>rfl) rfl (fun w=>rfl) rfl rfl rfl bN (aF rfl (gE fun ψ=>rfl)) (by decide +kernel)
 (ar (aT (b6 (sA (aq (sV 0) kS (fun ψ=>rfl)) (sA (aq (sV 0) fF (fun ψ=>rfl)) (sA (aq (sV 0) lE (fun ψ=>rfl)) (sA (sC (.head _) nu (aG rfl) (sA (cZ (own:= ["child"]) (cap:= []) (gs:= []) (idx:= []) (by decide +kernel) (aY (aq (sV 0) eK (fun ψ=>rfl))) (bB 0 rfl (fun ψ=>rfl)) c_ (aL (sV 0) ab (fun ψ=>rfl) (.cons kT kW mF.2.fn (by decide) .nil) (fun ψ=>⟨_,rfl⟩)) (fun ψ ψ=>rfl)) ab) sY) ab)))))))⟩
noncomputable def q_: {c //aP 1 (.ref 246) c}:=⟨_,aI ["self","name","guid","tops","edition"] [] ["list"] [.int 1] _ (fun w=>rfl) rfl (fun w=>rfl) rfl rfl rfl UN (sj (k:=4) rfl rfl (fun w=>rfl) (Sw fun ψ ψ ψ ψ ψ=> .inr ⟨_,rfl,rfl⟩) (t6 fun ψ ψ ψ ψ=>⟨_,rfl,rfl⟩)) (by decide +kernel)
 (ai (bk (sV 1) (sV 0) MQ rfl) (ai (bk (sV 2) (sV 0) Fl rfl) (ai (bk (sC (.head _) zp (aG rfl) (sA (sV 3) ab) Fv) (sV 0) MR rfl) (ar (bk (sV 4) (sV 0) Fm rfl)))))⟩
noncomputable def uA: {c //aP 2 (.ref 254) c}:=⟨_,md HY q_.2⟩
noncomputable def f9: {c //aP 4 (.ref 251) c}:=⟨_,aI ["self"] [] ["tuple"] [] [] (fun w=>rfl) rfl (fun w=>rfl) rfl rfl rfl bN (aF rfl (gE fun ψ=>rfl)) (by decide +kernel)
 (ar (aT (b6 (sA (aq (sV 0) zq (fun ψ=>rfl)) (sA (aq (sV 0) fF (fun ψ=>rfl)) (sA (aq (sV 0) kA (fun ψ=>rfl)) (sA (sC (.head _) nu (aG rfl) (sA (cZ (own:= ["node"]) (cap:= []) (gs:= []) (idx:= []) (by decide +kernel) (aY (aq (sV 0) vi (fun ψ=>rfl))) (bB 0 rfl (fun ψ=>rfl)) c_ (aL (sV 0) ab (fun ψ=>rfl) (.cons kT kW mG.2.fn (by decide) .nil) (fun ψ=>⟨_,rfl⟩)) (fun ψ ψ=>rfl)) ab) sY) ab)))))))⟩
noncomputable def gw: {c //aP 1 (.ref 265) c}:=⟨_,aI [] [] [] [] [] (fun w=>rfl) rfl (fun w=>rfl) rfl rfl rfl bN (aF rfl (len0 rfl)) (by decide +kernel)
 (ar (aT (cO (sA cH (sA cH (sA cH ab))))))⟩
noncomputable def jH: {c //aP 1 (.ref 272) c}:=⟨_,aI ["guids","parity"] ["found","guid"] ["NUMBERS"] [] [] (fun w=>rfl) rfl (fun w=>rfl) rfl rfl rfl bN (aF rfl (iE fun ψ ψ=>rfl)) (by decide +kernel)
 (ai (bh 2 rfl (ak ag (sV 1) bY) rfl) (ai (dK (aY (sV 0)) (bB 3 rfl (fun h=>nomatch h)) (ar (bh 2 rfl (ak (ak (ak (sV 2) ag gD) (sV 3) bY) (bA (.head _) xk) dU) rfl)) (fun ψ ψ=>rfl)) (ar (aT (sV 2)))))⟩
end
section
noncomputable def lW: {c //aP 3 (.ref 279) c}:=⟨_,aI ["plan"] [] ["isinstance","tuple","len","int","bool","NUMBERS","Node"] [] [] (fun w=>rfl) rfl (fun w=>rfl) rfl rfl rfl bN (aF rfl (gE fun ψ=>rfl)) (by decide +kernel)
 (ai (bM (bG (b4 (fZ (gu (sC (.head _) hH (aG rfl) (sA (sV 0) (sA (bA (mi 1 rfl) nu) ab)) sZ) (fun ψ=>rfl))) (b4 (aD (sC (.tail _ (mi 1 rfl)) ew (aG rfl) (sA (sV 0) ab) ey) ag jh rfl) (b4 (aD (bK (sV 0) ag (fun ψ ψ=>rfl)) cH jh rfl) dX)))) (cq cn) bu) (ai (bM (bG (b4 (fZ (gu (sC (.head _) hH (aG rfl) (sA (bK (sV 0) ag (fun ψ ψ=>rfl)) (sA (bA (.tail _ (.tail _ (mi 1 rfl))) PZ) ab)) sZ) (fun ψ=>rfl))) (b4 (gu (sC (.head _) hH (aG rfl) (sA (bK (sV 0) ag (fun ψ ψ=>rfl)) (sA (bA (.tail _ (.tail _ (.tail _ (mi 1 rfl)))) Fj) ab)) sZ) (fun ψ=>rfl)) (b4 (fZ (gC ag (bK (sV 0) ag (fun ψ ψ=>rfl)) (bA (.tail _ (.tail _ (.tail _ (.tail _ (mi 1 rfl))))) xk) fQ fR rfl)) dX)))) (cq cn) bu) (ar (aT (sC (.tail _ (.tail _ (.tail _ (.tail _ (.tail _ (mi 1 rfl)))))) rR rT (sA cH (sA (bK (sV 0) ag (fun ψ ψ=>rfl)) ab)) nW.2.fn)))))⟩
noncomputable def kF: {c //aP 4 (.ref 284) c}:=⟨_,aI ["plan"] ["children","parity"] ["isinstance","tuple","len","sorts","disk_node","list","bool","range","MOST_PARITY","max","MOST_CHILDREN","Node","number_of_disks"] [] [] (fun w=>rfl) rfl (fun w=>rfl) rfl rfl rfl bN (aF rfl (gE fun ψ=>rfl)) (by decide +kernel)
 (ai (bM (bG (b4 (fZ (gu (sC (.head _) hH (aG rfl) (sA (sV 0) (sA (bA (mi 1 rfl) nu) ab)) sZ) (fun ψ=>rfl))) (b4 (aD (sC (.tail _ (mi 1 rfl)) ew (aG rfl) (sA (sV 0) ab) ey) ag fR rfl) (b4 (aD (bK (sV 0) ag (fun ψ ψ=>rfl)) (sC (.tail _ (.tail _ (mi 1 rfl))) iJ iK ab gw.2.fn) s_ rfl) dX)))) (cq cn) bu) (ai (bM (aD (bK (sV 0) ag (fun ψ ψ=>rfl)) cH eT rfl) (ar (aT (sC (.tail _ (.tail _ (.tail _ (mi 1 rfl)))) tP tQ (sA (sV 0) ab) lW.2.fn))) bu) (ai (bM (bG (b4 (aD (sC (.tail _ (mi 1 rfl)) ew (aG rfl) (sA (sV 0) ab) ey) (kO (aD (bK (sV 0) ag (fun ψ ψ=>rfl)) cH eT rfl) ag ag) jh rfl) (b4 (fZ (gu (sC (.head _) hH (aG rfl) (sA (bK (sV 0) (BY ag) (fun ψ ψ=>rfl)) (sA (bA (.tail _ (.tail _ (.tail _ (.tail _ (mi 1 rfl))))) zp) ab)) sZ) (fun ψ=>rfl))) dX))) (cq cn) bu) (ai (lF (names:= ["children","parity"]) (b6 (sA (cZ (own:= ["child"]) (cap:= []) (gs:= ["disk_node"]) (idx:= []) (by decide +kernel) (aY (bK (sV 0) (BY ag) (fun ψ ψ=>rfl))) (bB 0 rfl (fun ψ=>rfl)) c_ (sC (.head _) tP tQ (sA (sV 0) ab) lW.2.fn) (fun ψ ψ=>rfl)) (sA (kO (aD (bK (sV 0) ag (fun ψ ψ=>rfl)) cH eT rfl) ag (bK (sV 0) ag (fun ψ ψ=>rfl))) ab))) (.cons (i:=2) rfl (.cons (i:=1) rfl .nil)) rfl rfl (fun ψ=>by kernel_rfl!)) (ai (bM (bG (bS (aD (bK (sV 0) ag (fun ψ ψ=>rfl)) cH eT rfl) (bS (bG (b4 (gu (sC (.head _) hH (aG rfl) (sA (sV 2) (sA (bA (.tail _ (.tail _ (.tail _ (.tail _ (.tail _ (mi 1 rfl)))))) Fj) ab)) sZ) (fun ψ=>rfl)) (b4 (aD (sV 2) (sC (.tail _ (.tail _ (.tail _ (.tail _ (.tail _ (.tail _ (mi 1 rfl))))))) kz (aG rfl) (sA ag (sA (ak (bA (.tail _ (.tail _ (.tail _ (.tail _ (.tail _ (.tail _ (.tail _ (mi 1 rfl)))))))) j6) ag bY) ab)) kD) s_ rfl) dX))) dz))) (cq cn) bu) (ai (bM (fZ (gC (sC (.tail _ (.tail _ (.tail _ (.tail _ (.tail _ (.tail _ (.tail _ (.tail _ (mi 1 rfl))))))))) Df (aG rfl) (sA ag (sA (ak (sV 2) ag bY) ab)) DE) (sC (.tail _ (mi 1 rfl)) ew (aG rfl) (sA (sV 1) ab) ey) (bA (.tail _ (.tail _ (.tail _ (.tail _ (.tail _ (.tail _ (.tail _ (.tail _ (.tail _ (mi 1 rfl)))))))))) vh) fQ fQ rfl)) (cq cn) bu) (ar (aT (sC (.tail _ (.tail _ (.tail _ (.tail _ (.tail _ (.tail _ (.tail _ (.tail _ (.tail _ (.tail _ (mi 1 rfl))))))))))) rR rT (sA (bK (sV 0) ag (fun ψ ψ=>rfl)) (sA (sC (.tail _ (.tail _ (.tail _ (.tail _ (.tail _ (.tail _ (.tail _ (.tail _ (.tail _ (.tail _ (.tail _ (mi 1 rfl)))))))))))) tw tA (sA (cZ (own:= ["child"]) (cap:= []) (gs:= []) (idx:= []) (by decide +kernel) (aY (sV 1)) (bB 0 rfl (fun ψ=>rfl)) c_ (aq (sV 0) fF (fun ψ=>rfl)) (fun ψ ψ=>rfl)) (sA (sV 2) ab)) jH.2.fn) (sA (sV 1) (sA (sV 2) ab)))) nW.2.fn)))))))))⟩
noncomputable def Bn: {c //aP 1 (.ref 291) c}:=⟨_,aI ["node"] ["found","child"] ["disks_of"] [] [] (fun w=>rfl) rfl (fun w=>rfl) rfl rfl rfl bN (aF rfl (gE fun ψ=>rfl)) (by decide +kernel)
 (ai (bM (aD (aq (sV 0) kS (fun ψ=>rfl)) cH eT rfl) (ar (aT (cO (sA (aq (sV 0) fF (fun ψ=>rfl)) ab)))) bu) (ai (bh 1 rfl (cO ab) rfl) (ai (dK (aY (aq (sV 0) eK (fun ψ=>rfl))) (bB 2 rfl (fun h=>nomatch h)) (ar (bp (ez (sV 1) (sA (sC (.head _) kQ kR (sA (sV 2) ab) (oU (n:=0))) ab) (fun ψ=>rfl) (gj F.slot_list_extend F.type_list_extend) nU (fun ψ=>⟨_,rfl⟩)) rfl)) (fun ψ ψ=>rfl)) (ar (aT (sV 1))))))⟩
noncomputable def pF: {c //aP 2 (.ref 291) c}:=⟨_,aI ["node"] ["found","child"] ["disks_of"] [] [] (fun w=>rfl) rfl (fun w=>rfl) rfl rfl rfl bN (aF rfl (gE fun ψ=>rfl)) (by decide +kernel)
 (ai (bM (aD (aq (sV 0) kS (fun ψ=>rfl)) cH eT rfl) (ar (aT (cO (sA (aq (sV 0) fF (fun ψ=>rfl)) ab)))) bu) (ai (bh 1 rfl (cO ab) rfl) (ai (dK (aY (aq (sV 0) eK (fun ψ=>rfl))) (bB 2 rfl (fun h=>nomatch h)) (ar (bp (ez (sV 1) (sA (sC (.head _) kQ kR (sA (sV 2) ab) Bn.2.fn) ab) (fun ψ=>rfl) (gj F.slot_list_extend F.type_list_extend) nU (fun ψ=>⟨_,rfl⟩)) rfl)) (fun ψ ψ=>rfl)) (ar (aT (sV 1))))))⟩
noncomputable def lX: {c //aP 3 (.ref 291) c}:=⟨_,aI ["node"] ["found","child"] ["disks_of"] [] [] (fun w=>rfl) rfl (fun w=>rfl) rfl rfl rfl bN (aF rfl (gE fun ψ=>rfl)) (by decide +kernel)
 (ai (bM (aD (aq (sV 0) kS (fun ψ=>rfl)) cH eT rfl) (ar (aT (cO (sA (aq (sV 0) fF (fun ψ=>rfl)) ab)))) bu) (ai (bh 1 rfl (cO ab) rfl) (ai (dK (aY (aq (sV 0) eK (fun ψ=>rfl))) (bB 2 rfl (fun h=>nomatch h)) (ar (bp (ez (sV 1) (sA (sC (.head _) kQ kR (sA (sV 2) ab) pF.2.fn) ab) (fun ψ=>rfl) (gj F.slot_list_extend F.type_list_extend) nU (fun ψ=>⟨_,rfl⟩)) rfl)) (fun ψ ψ=>rfl)) (ar (aT (sV 1))))))⟩
noncomputable def fP: {c //aP 5 (.ref 297) c}:=⟨_,aI ["name","guid","plans","edition"] ["tops","guids","node"] ["disks_of","len","set","Config"] [.int 1] _ (fun w=>rfl) rfl (fun w=>rfl) rfl rfl rfl UN (sj (k:=3) rfl rfl (fun w=>rfl) (t6 fun ψ ψ ψ ψ=> .inr ⟨_,rfl,rfl⟩) (p_ fun ψ ψ ψ=>⟨_,rfl,rfl⟩)) (by decide +kernel)
 (ai (qt 4 rfl rfl (by decide +kernel) (own:= ["plan"]) (cap:= []) (gs:= ["node_of"]) (idx:= []) (by decide +kernel) (aY (sV 2)) (bB 0 rfl (fun ψ=>rfl)) c_ (sC (.head _) Fh Fi (sA (sV 0) ab) kF.2.fn) (fun ψ ψ=>rfl)) (ai (bh 5 rfl (cO ab) rfl) (ai (dK (aY (sV 4)) (bB 6 rfl (fun h=>nomatch h)) (ar (bp (ez (sV 5) (sA (sC (.head _) kQ kR (sA (sV 6) ab) lX.2.fn) ab) (fun ψ=>rfl) (gj F.slot_list_extend F.type_list_extend) nU (fun ψ=>⟨_,rfl⟩)) rfl)) (fun ψ ψ=>rfl)) (ai (bM (bG (b4 (aD (sV 4) (cO ab) eT rfl) (b4 (aD (sC (mi 1 rfl) ew (aG rfl) (sA (sV 5) ab) ey) (sC (mi 1 rfl) ew (aG rfl) (sA (sC (.tail _ (mi 1 rfl)) PY (aG rfl) (sA (sV 5) ab) Qk) ab) ey) jh rfl) dX))) (cq cn) bu) (ar (aT (sC (.tail _ (.tail _ (mi 1 rfl))) zk zl (sA (sV 0) (sA (sV 1) (sA (sV 4) (sA (sV 3) ab)))) uA.2.fn)))))))⟩
noncomputable def pG: {c //aP 4 (.ref 304) c}:=⟨_,aI ["config"] ["found","node"] ["disks_of"] [] [] (fun w=>rfl) rfl (fun w=>rfl) rfl rfl rfl bN (aF rfl (gE fun ψ=>rfl)) (by decide +kernel)
 (ai (bh 1 rfl (cO ab) rfl) (ai (dK (aY (aq (sV 0) vi (fun ψ=>rfl))) (bB 2 rfl (fun h=>nomatch h)) (ar (bp (ez (sV 1) (sA (sC (.head _) kQ kR (sA (sV 2) ab) lX.2.fn) ab) (fun ψ=>rfl) (gj F.slot_list_extend F.type_list_extend) nU (fun ψ=>⟨_,rfl⟩)) rfl)) (fun ψ ψ=>rfl)) (ar (aT (sV 1)))))⟩
noncomputable def Bo: {c //aP 3 (.ref 311) c}:=⟨_,aI ["sink","node"] ["child"] ["sorts","len","put_node"] [] [] (fun w=>rfl) rfl (fun w=>rfl) rfl rfl rfl bN (aF rfl (iE fun ψ ψ=>rfl)) (by decide +kernel)
 (ai (bp (aL (sV 0) (sA (ez (sC (.head _) iJ iK ab gw.2.fn) (sA (aq (sV 1) kS (fun ψ=>rfl)) ab) (fun ψ=>rfl) (gj F.slot_list_index F.type_list_index) wD (fun ψ=>⟨_,rfl⟩)) (sA ag ab)) (fun ψ=>rfl) (.cons b9 b_ bJ.2.fn (by decide) .nil) (fun ψ=>⟨_,rfl⟩)) rfl) (ai (bp (aL (sV 0) (sA (aq (sV 1) fF (fun ψ=>rfl)) (sA ag ab)) (fun ψ=>rfl) (.cons b9 b_ bJ.2.fn (by decide) .nil) (fun ψ=>⟨_,rfl⟩)) rfl) (ai (bp (aL (sV 0) (sA (aq (sV 1) lE (fun ψ=>rfl)) (sA ag ab)) (fun ψ=>rfl) (.cons b9 b_ bJ.2.fn (by decide) .nil) (fun ψ=>⟨_,rfl⟩)) rfl) (ai (bp (aL (sV 0) (sA (sC (mi 1 rfl) ew (aG rfl) (sA (aq (sV 1) eK (fun ψ=>rfl)) ab) ey) (sA ag ab)) (fun ψ=>rfl) (.cons b9 b_ bJ.2.fn (by decide) .nil) (fun ψ=>⟨_,rfl⟩)) rfl) (ar (dK (aY (aq (sV 1) eK (fun ψ=>rfl))) (bB 2 rfl (fun h=>nomatch h)) (ar (bp (sC (.tail _ (mi 1 rfl)) m_ nc (sA (sV 0) (sA (sV 2) ab)) (oU (n:=0))) rfl)) (fun ψ ψ=>rfl)))))))⟩
noncomputable def pH: {c //aP 4 (.ref 311) c}:=⟨_,aI ["sink","node"] ["child"] ["sorts","len","put_node"] [] [] (fun w=>rfl) rfl (fun w=>rfl) rfl rfl rfl bN (aF rfl (iE fun ψ ψ=>rfl)) (by decide +kernel)
 (ai (bp (aL (sV 0) (sA (ez (sC (.head _) iJ iK ab gw.2.fn) (sA (aq (sV 1) kS (fun ψ=>rfl)) ab) (fun ψ=>rfl) (gj F.slot_list_index F.type_list_index) wD (fun ψ=>⟨_,rfl⟩)) (sA ag ab)) (fun ψ=>rfl) (.cons b9 b_ bJ.2.fn (by decide) .nil) (fun ψ=>⟨_,rfl⟩)) rfl) (ai (bp (aL (sV 0) (sA (aq (sV 1) fF (fun ψ=>rfl)) (sA ag ab)) (fun ψ=>rfl) (.cons b9 b_ bJ.2.fn (by decide) .nil) (fun ψ=>⟨_,rfl⟩)) rfl) (ai (bp (aL (sV 0) (sA (aq (sV 1) lE (fun ψ=>rfl)) (sA ag ab)) (fun ψ=>rfl) (.cons b9 b_ bJ.2.fn (by decide) .nil) (fun ψ=>⟨_,rfl⟩)) rfl) (ai (bp (aL (sV 0) (sA (sC (mi 1 rfl) ew (aG rfl) (sA (aq (sV 1) eK (fun ψ=>rfl)) ab) ey) (sA ag ab)) (fun ψ=>rfl) (.cons b9 b_ bJ.2.fn (by decide) .nil) (fun ψ=>⟨_,rfl⟩)) rfl) (ar (dK (aY (aq (sV 1) eK (fun ψ=>rfl))) (bB 2 rfl (fun h=>nomatch h)) (ar (bp (sC (.tail _ (mi 1 rfl)) m_ nc (sA (sV 0) (sA (sV 2) ab)) Bo.2.fn) rfl)) (fun ψ ψ=>rfl)))))))⟩
noncomputable def pI: {c //aP 5 (.ref 311) c}:=⟨_,aI ["sink","node"] ["child"] ["sorts","len","put_node"] [] [] (fun w=>rfl) rfl (fun w=>rfl) rfl rfl rfl bN (aF rfl (iE fun ψ ψ=>rfl)) (by decide +kernel)
 (ai (bp (aL (sV 0) (sA (ez (sC (.head _) iJ iK ab gw.2.fn) (sA (aq (sV 1) kS (fun ψ=>rfl)) ab) (fun ψ=>rfl) (gj F.slot_list_index F.type_list_index) wD (fun ψ=>⟨_,rfl⟩)) (sA ag ab)) (fun ψ=>rfl) (.cons b9 b_ bJ.2.fn (by decide) .nil) (fun ψ=>⟨_,rfl⟩)) rfl) (ai (bp (aL (sV 0) (sA (aq (sV 1) fF (fun ψ=>rfl)) (sA ag ab)) (fun ψ=>rfl) (.cons b9 b_ bJ.2.fn (by decide) .nil) (fun ψ=>⟨_,rfl⟩)) rfl) (ai (bp (aL (sV 0) (sA (aq (sV 1) lE (fun ψ=>rfl)) (sA ag ab)) (fun ψ=>rfl) (.cons b9 b_ bJ.2.fn (by decide) .nil) (fun ψ=>⟨_,rfl⟩)) rfl) (ai (bp (aL (sV 0) (sA (sC (mi 1 rfl) ew (aG rfl) (sA (aq (sV 1) eK (fun ψ=>rfl)) ab) ey) (sA ag ab)) (fun ψ=>rfl) (.cons b9 b_ bJ.2.fn (by decide) .nil) (fun ψ=>⟨_,rfl⟩)) rfl) (ar (dK (aY (aq (sV 1) eK (fun ψ=>rfl))) (bB 2 rfl (fun h=>nomatch h)) (ar (bp (sC (.tail _ (mi 1 rfl)) m_ nc (sA (sV 0) (sA (sV 2) ab)) pH.2.fn) rfl)) (fun ψ ψ=>rfl)))))))⟩
noncomputable def iW: {c //aP 6 (.ref 318) c}:=⟨_,aI ["config"] ["sink","node"] ["Sink","MAGIC","VERSION","len","put_node"] [] [] (fun w=>rfl) rfl (fun w=>rfl) rfl rfl rfl bN (aF rfl (gE fun ψ=>rfl)) (by decide +kernel)
 (ai (bh 1 rfl (sC (.head _) MB MC ab FU.2.fn) rfl) (ai (bp (aL (sV 1) (sA (bA (mi 1 rfl) BQ) (sA ag ab)) (fun ψ=>rfl) (.cons b9 b_ bJ.2.fn (by decide) .nil) (fun ψ=>⟨_,rfl⟩)) rfl) (ai (bp (aL (sV 1) (sA (bA (.tail _ (mi 1 rfl)) xj) (sA ag ab)) (fun ψ=>rfl) (.cons b9 b_ bJ.2.fn (by decide) .nil) (fun ψ=>⟨_,rfl⟩)) rfl) (ai (bp (aL (sV 1) (sA (aq (sV 0) zq (fun ψ=>rfl)) ab) (fun ψ=>rfl) (.cons A5 A6 pE.2.fn (by decide) .nil) (fun ψ=>⟨_,rfl⟩)) rfl) (ai (bp (aL (sV 1) (sA (aq (sV 0) fF (fun ψ=>rfl)) (sA ag ab)) (fun ψ=>rfl) (.cons b9 b_ bJ.2.fn (by decide) .nil) (fun ψ=>⟨_,rfl⟩)) rfl) (ai (bp (aL (sV 1) (sA (aq (sV 0) kA (fun ψ=>rfl)) (sA ag ab)) (fun ψ=>rfl) (.cons b9 b_ bJ.2.fn (by decide) .nil) (fun ψ=>⟨_,rfl⟩)) rfl) (ai (bp (aL (sV 1) (sA (sC (.tail _ (.tail _ (mi 1 rfl))) ew (aG rfl) (sA (aq (sV 0) vi (fun ψ=>rfl)) ab) ey) (sA ag ab)) (fun ψ=>rfl) (.cons b9 b_ bJ.2.fn (by decide) .nil) (fun ψ=>⟨_,rfl⟩)) rfl) (ai (dK (aY (aq (sV 0) vi (fun ψ=>rfl))) (bB 2 rfl (fun h=>nomatch h)) (ar (bp (sC (.tail _ (.tail _ (.tail _ (mi 1 rfl)))) m_ nc (sA (sV 1) (sA (sV 2) ab)) pI.2.fn) rfl)) (fun ψ ψ=>rfl)) (ar (aT (aL (sV 1) ab (fun ψ=>rfl) (.cons zv zw nV.2.fn (by decide) .nil) (fun ψ=>⟨_,rfl⟩))))))))))))⟩
noncomputable def Ab: {c //aP 4 (.ref 323) c}:=⟨_,aI ["cursor","depth"] ["number","guid","parity","many","sort"] ["len","sorts","min","MOST_PARITY","Node","range"] [] [] (fun w=>rfl) rfl (fun w=>rfl) rfl rfl rfl bN (aF rfl (iE fun ψ ψ=>rfl)) (by decide +kernel)
 (ai (nG (b6 (sA (aL (sV 0) (sA ag ab) (fun ψ=>rfl) (.cons bV bW bq.2.fn (by decide) .nil) (fun ψ=>⟨_,rfl⟩)) (sA (aL (sV 0) (sA ag ab) (fun ψ=>rfl) (.cons bV bW bq.2.fn (by decide) .nil) (fun ψ=>⟨_,rfl⟩)) (sA (aL (sV 0) (sA ag ab) (fun ψ=>rfl) (.cons bV bW bq.2.fn (by decide) .nil) (fun ψ=>⟨_,rfl⟩)) (sA (aL (sV 0) (sA ag ab) (fun ψ=>rfl) (.cons bV bW bq.2.fn (by decide) .nil) (fun ψ=>⟨_,rfl⟩)) ab))))) (.cons (i:=2) rfl (fun h=>nomatch h) (.cons (i:=3) rfl (fun h=>nomatch h) (.cons (i:=4) rfl (fun h=>nomatch h) (.cons (i:=5) rfl (fun h=>nomatch h) .nil)))) rfl (fun ψ=>by kernel_rfl!)) (ai (bM (bG (b4 (aD (sV 2) (sC (.head _) ew (aG rfl) (sA (sC (mi 1 rfl) iJ iK ab gw.2.fn) ab) ey) H7 rfl) (b4 (bG (bS (aD (sV 2) ag kY rfl) (bS (aD (sV 1) ag kY rfl) dz))) dX))) (cq cn) bu) (ai (bh 6 rfl (bK (sC (mi 1 rfl) iJ iK ab gw.2.fn) (sV 2) (fun ψ ψ=>rfl)) rfl) (ai (bM (bG (b4 (bG (bS (aD (sV 6) cH eT rfl) (bS (aD (b6 (sA (sV 5) (sA (sV 4) ab))) (b6 (sA ag (sA ag ab))) jh rfl) dz))) (b4 (bG (bS (aD (sV 6) cH eT rfl) (bS (bG (b4 (aD (sV 5) ag fR rfl) (b4 (aD (sV 4) ag jh rfl) dX))) dz))) dX))) (cq cn) bu) (ai (bM (bG (bS (aD (sV 6) cH eT rfl) (bS (fZ (gC ag (sV 4) (sC (.tail _ (mi 1 rfl)) Dg (aG rfl) (sA (bA (.tail _ (.tail _ (mi 1 rfl))) j6) (sA (ak (sV 5) ag oR) ab)) Dz) fQ fQ rfl)) dz))) (cq cn) bu) (ar (aT (sC (.tail _ (.tail _ (.tail _ (mi 1 rfl)))) rR rT (sA (sV 6) (sA (sV 3) (sA (cZ (own:= ["turn"]) (cap:= ["cursor","depth"]) (gs:= ["read_node"]) (idx:= [0,1]) (by decide +kernel) (aY (sC (.tail _ (.tail _ (.tail _ (.tail _ (mi 1 rfl))))) kz (aG rfl) (sA (sV 5) ab) kD)) (bB 0 rfl (fun ψ=>rfl)) c_ (sC (.head _) lQ lR (sA (sV 1) (sA (ak (sV 2) ag bY) ab)) (oU (n:=0))) (fun ψ ψ=>rfl)) (sA (sV 4) ab)))) nW.2.fn))))))))⟩
noncomputable def nX: {c //aP 5 (.ref 323) c}:=⟨_,aI ["cursor","depth"] ["number","guid","parity","many","sort"] ["len","sorts","min","MOST_PARITY","Node","range"] [] [] (fun w=>rfl) rfl (fun w=>rfl) rfl rfl rfl bN (aF rfl (iE fun ψ ψ=>rfl)) (by decide +kernel)
 (ai (nG (b6 (sA (aL (sV 0) (sA ag ab) (fun ψ=>rfl) (.cons bV bW bq.2.fn (by decide) .nil) (fun ψ=>⟨_,rfl⟩)) (sA (aL (sV 0) (sA ag ab) (fun ψ=>rfl) (.cons bV bW bq.2.fn (by decide) .nil) (fun ψ=>⟨_,rfl⟩)) (sA (aL (sV 0) (sA ag ab) (fun ψ=>rfl) (.cons bV bW bq.2.fn (by decide) .nil) (fun ψ=>⟨_,rfl⟩)) (sA (aL (sV 0) (sA ag ab) (fun ψ=>rfl) (.cons bV bW bq.2.fn (by decide) .nil) (fun ψ=>⟨_,rfl⟩)) ab))))) (.cons (i:=2) rfl (fun h=>nomatch h) (.cons (i:=3) rfl (fun h=>nomatch h) (.cons (i:=4) rfl (fun h=>nomatch h) (.cons (i:=5) rfl (fun h=>nomatch h) .nil)))) rfl (fun ψ=>by kernel_rfl!)) (ai (bM (bG (b4 (aD (sV 2) (sC (.head _) ew (aG rfl) (sA (sC (mi 1 rfl) iJ iK ab gw.2.fn) ab) ey) H7 rfl) (b4 (bG (bS (aD (sV 2) ag kY rfl) (bS (aD (sV 1) ag kY rfl) dz))) dX))) (cq cn) bu) (ai (bh 6 rfl (bK (sC (mi 1 rfl) iJ iK ab gw.2.fn) (sV 2) (fun ψ ψ=>rfl)) rfl) (ai (bM (bG (b4 (bG (bS (aD (sV 6) cH eT rfl) (bS (aD (b6 (sA (sV 5) (sA (sV 4) ab))) (b6 (sA ag (sA ag ab))) jh rfl) dz))) (b4 (bG (bS (aD (sV 6) cH eT rfl) (bS (bG (b4 (aD (sV 5) ag fR rfl) (b4 (aD (sV 4) ag jh rfl) dX))) dz))) dX))) (cq cn) bu) (ai (bM (bG (bS (aD (sV 6) cH eT rfl) (bS (fZ (gC ag (sV 4) (sC (.tail _ (mi 1 rfl)) Dg (aG rfl) (sA (bA (.tail _ (.tail _ (mi 1 rfl))) j6) (sA (ak (sV 5) ag oR) ab)) Dz) fQ fQ rfl)) dz))) (cq cn) bu) (ar (aT (sC (.tail _ (.tail _ (.tail _ (mi 1 rfl)))) rR rT (sA (sV 6) (sA (sV 3) (sA (cZ (own:= ["turn"]) (cap:= ["cursor","depth"]) (gs:= ["read_node"]) (idx:= [0,1]) (by decide +kernel) (aY (sC (.tail _ (.tail _ (.tail _ (.tail _ (mi 1 rfl))))) kz (aG rfl) (sA (sV 5) ab) kD)) (bB 0 rfl (fun ψ=>rfl)) c_ (sC (.head _) lQ lR (sA (sV 1) (sA (ak (sV 2) ag bY) ab)) Ab.2.fn) (fun ψ ψ=>rfl)) (sA (sV 4) ab)))) nW.2.fn))))))))⟩
noncomputable def nY: {c //aP 6 (.ref 323) c}:=⟨_,aI ["cursor","depth"] ["number","guid","parity","many","sort"] ["len","sorts","min","MOST_PARITY","Node","range"] [] [] (fun w=>rfl) rfl (fun w=>rfl) rfl rfl rfl bN (aF rfl (iE fun ψ ψ=>rfl)) (by decide +kernel)
 (ai (nG (b6 (sA (aL (sV 0) (sA ag ab) (fun ψ=>rfl) (.cons bV bW bq.2.fn (by decide) .nil) (fun ψ=>⟨_,rfl⟩)) (sA (aL (sV 0) (sA ag ab) (fun ψ=>rfl) (.cons bV bW bq.2.fn (by decide) .nil) (fun ψ=>⟨_,rfl⟩)) (sA (aL (sV 0) (sA ag ab) (fun ψ=>rfl) (.cons bV bW bq.2.fn (by decide) .nil) (fun ψ=>⟨_,rfl⟩)) (sA (aL (sV 0) (sA ag ab) (fun ψ=>rfl) (.cons bV bW bq.2.fn (by decide) .nil) (fun ψ=>⟨_,rfl⟩)) ab))))) (.cons (i:=2) rfl (fun h=>nomatch h) (.cons (i:=3) rfl (fun h=>nomatch h) (.cons (i:=4) rfl (fun h=>nomatch h) (.cons (i:=5) rfl (fun h=>nomatch h) .nil)))) rfl (fun ψ=>by kernel_rfl!)) (ai (bM (bG (b4 (aD (sV 2) (sC (.head _) ew (aG rfl) (sA (sC (mi 1 rfl) iJ iK ab gw.2.fn) ab) ey) H7 rfl) (b4 (bG (bS (aD (sV 2) ag kY rfl) (bS (aD (sV 1) ag kY rfl) dz))) dX))) (cq cn) bu) (ai (bh 6 rfl (bK (sC (mi 1 rfl) iJ iK ab gw.2.fn) (sV 2) (fun ψ ψ=>rfl)) rfl) (ai (bM (bG (b4 (bG (bS (aD (sV 6) cH eT rfl) (bS (aD (b6 (sA (sV 5) (sA (sV 4) ab))) (b6 (sA ag (sA ag ab))) jh rfl) dz))) (b4 (bG (bS (aD (sV 6) cH eT rfl) (bS (bG (b4 (aD (sV 5) ag fR rfl) (b4 (aD (sV 4) ag jh rfl) dX))) dz))) dX))) (cq cn) bu) (ai (bM (bG (bS (aD (sV 6) cH eT rfl) (bS (fZ (gC ag (sV 4) (sC (.tail _ (mi 1 rfl)) Dg (aG rfl) (sA (bA (.tail _ (.tail _ (mi 1 rfl))) j6) (sA (ak (sV 5) ag oR) ab)) Dz) fQ fQ rfl)) dz))) (cq cn) bu) (ar (aT (sC (.tail _ (.tail _ (.tail _ (mi 1 rfl)))) rR rT (sA (sV 6) (sA (sV 3) (sA (cZ (own:= ["turn"]) (cap:= ["cursor","depth"]) (gs:= ["read_node"]) (idx:= [0,1]) (by decide +kernel) (aY (sC (.tail _ (.tail _ (.tail _ (.tail _ (mi 1 rfl))))) kz (aG rfl) (sA (sV 5) ab) kD)) (bB 0 rfl (fun ψ=>rfl)) c_ (sC (.head _) lQ lR (sA (sV 1) (sA (ak (sV 2) ag bY) ab)) nX.2.fn) (fun ψ ψ=>rfl)) (sA (sV 4) ab)))) nW.2.fn))))))))⟩
noncomputable def jT: {c //aP 7 (.ref 328) c}:=⟨_,aI ["octets"] ["cursor","name","guid","edition","many"] ["Cursor","MAGIC","VERSION","Config","range"] [] [] (fun w=>rfl) rfl (fun w=>rfl) rfl rfl rfl bN (aF rfl (gE fun ψ=>rfl)) (by decide +kernel)
 (ai (bh 1 rfl (sC (.head _) HS HT (sA (sV 0) ab) Aa.2.fn) rfl) (ai (bM (bG (b4 (aD (aL (sV 1) (sA ag ab) (fun ψ=>rfl) (.cons bV bW bq.2.fn (by decide) .nil) (fun ψ=>⟨_,rfl⟩)) (bA (mi 1 rfl) BQ) jh rfl) (b4 (aD (aL (sV 1) (sA ag ab) (fun ψ=>rfl) (.cons bV bW bq.2.fn (by decide) .nil) (fun ψ=>⟨_,rfl⟩)) (bA (.tail _ (mi 1 rfl)) xj) jh rfl) dX))) (cq cn) bu) (ai (nG (b6 (sA (aL (sV 1) ab (fun ψ=>rfl) (.cons x_ yb mE.2.fn (by decide) .nil) (fun ψ=>⟨_,rfl⟩)) (sA (aL (sV 1) (sA ag ab) (fun ψ=>rfl) (.cons bV bW bq.2.fn (by decide) .nil) (fun ψ=>⟨_,rfl⟩)) (sA (aL (sV 1) (sA ag ab) (fun ψ=>rfl) (.cons bV bW bq.2.fn (by decide) .nil) (fun ψ=>⟨_,rfl⟩)) (sA (aL (sV 1) (sA ag ab) (fun ψ=>rfl) (.cons bV bW bq.2.fn (by decide) .nil) (fun ψ=>⟨_,rfl⟩)) ab))))) (.cons (i:=2) rfl (fun h=>nomatch h) (.cons (i:=3) rfl (fun h=>nomatch h) (.cons (i:=4) rfl (fun h=>nomatch h) (.cons (i:=5) rfl (fun h=>nomatch h) .nil)))) rfl (fun ψ=>by kernel_rfl!)) (ai (bM (aD (sV 5) ag eT rfl) (cq cn) bu) (ar (aT (sC (.tail _ (.tail _ (mi 1 rfl))) zk zl (sA (sV 2) (sA (sV 3) (sA (cZ (own:= ["turn"]) (cap:= ["cursor"]) (gs:= ["read_node"]) (idx:= [1]) (by decide +kernel) (aY (sC (.tail _ (.tail _ (.tail _ (mi 1 rfl)))) kz (aG rfl) (sA (sV 5) ab) kD)) (bB 0 rfl (fun ψ=>rfl)) c_ (sC (.head _) lQ lR (sA (sV 1) (sA ag ab)) nY.2.fn) (fun ψ ψ=>rfl)) (sA (sV 4) ab)))) uA.2.fn)))))))⟩
end
section
noncomputable def KW:List MV->Option (List MV)
 | [x0,a,b,c,d]=>some [x0,a,.int 32,.int 32,.int 4,.int 4,b,.int 2,.int 128,c,d,.int 128]
 |_=>none
set_option maxHeartbeats 4000000 in
noncomputable def Ac: {c //nH 1 (.ref 343) 1 ["sector","ring","uber","config"] c}:=⟨_,KO ["self","sector","slab","record","fan","dnodes","ring","defer","most_record","uber","config","zap"] [] [] 1 ["sector","ring","uber","config"] KW (fun w=>rfl) rfl (fun w=>rfl) rfl rfl rfl (fun w s ρ n xs vs ys X r e=>by
  cases r with
  |nil=>exact cj e
  |cons r0 r=>cases r with
   |nil=>exact cj e
   |cons r1 r=>cases r with
    |nil=>exact cj e
    |cons r2 r=>cases r with
     |nil=>exact cj e
     |cons r3 r=>cases r with
      |nil=>exact cj e
      |cons r4 r=>cases r with
      |cons=>exact cj e
      |nil=>
       cases e;exact⟨[_,_,.int 32 _,.int 32 _,.int 4 _,.int 4 _,_,.int 2 _,.int 128 _,_,_,.int 128 _],.cons r0 (.cons r1 (.cons (.int _ _) (.cons (.int _ _) (.cons (.int _ _) (.cons (.int _ _) (.cons r2 (.cons (.int _ _) (.cons (.int _ _) (.cons r3 (.cons r4 (.cons (.int _ _) .nil))))))))))),rfl,BindsTo.of_defaults (T:=336) rfl (X _ _ rfl) rfl rfl rfl⟩) (by decide +kernel)
 (ai (bk (sV 1) (sV 0) zr rfl) (ai (bk (sV 2) (sV 0) MS rfl) (ai (bk (sV 3) (sV 0) H0 rfl) (ai (bk (sV 4) (sV 0) P4 rfl) (ai (bk (sV 5) (sV 0) H3 rfl) (ai (bk (sV 6) (sV 0) MU rfl) (ai (bk (sV 7) (sV 0) Ku rfl) (ai (bk (sV 8) (sV 0) xX rfl) (ai (bk (sV 9) (sV 0) MX rfl) (ai (bk (sV 10) (sV 0) H5 rfl) (ar (bk (sV 11) (sV 0) P5 rfl))))))))))))⟩
noncomputable def B7: {c //nH 2 (.ref 346) 0 ["sector","ring","uber","config"] c}:=⟨_,DL Kt Ac.2⟩
end
section
noncomputable def oV: {c //aP 1 (.ref 357) c}:=⟨_,aI ["size","part"] [] [] [] [] (fun w=>rfl) rfl (fun w=>rfl) rfl rfl rfl bN (aF rfl (iE fun ψ ψ=>rfl)) (by decide +kernel)
 (ar (aT (ak (ak (ak (sV 0) (sV 1) bY) ag oR) (sV 1) fb)))⟩
noncomputable def lG: {c //aP 2 (.ref 364) c}:=⟨_,aI ["shape"] [] ["many_of"] [] [] (fun w=>rfl) rfl (fun w=>rfl) rfl rfl rfl bN (aF rfl (gE fun ψ=>rfl)) (by decide +kernel)
 (ar (aT (sC (.head _) xh xi (sA (aq (sV 0) MW (fun ψ=>rfl)) (sA (aq (sV 0) dQ (fun ψ=>rfl)) ab)) oV.2.fn)))⟩
noncomputable def gk: {c //aP 2 (.ref 371) c}:=⟨_,aI ["shape"] [] ["many_of"] [] [] (fun w=>rfl) rfl (fun w=>rfl) rfl rfl rfl bN (aF rfl (gE fun ψ=>rfl)) (by decide +kernel)
 (ar (aT (sC (.head _) xh xi (sA (aq (sV 0) H4 (fun ψ=>rfl)) (sA (aq (sV 0) dQ (fun ψ=>rfl)) ab)) oV.2.fn)))⟩
noncomputable def k9: {c //aP 3 (.ref 378) c}:=⟨_,aI ["shape"] [] ["config_sectors","slot_sectors"] [] [] (fun w=>rfl) rfl (fun w=>rfl) rfl rfl rfl bN (aF rfl (gE fun ψ=>rfl)) (by decide +kernel)
 (ar (aT (ak (sC (.head _) kg kh (sA (sV 0) ab) gk.2.fn) (ak (aq (sV 0) MT (fun ψ=>rfl)) (sC (mi 1 rfl) wg wh (sA (sV 0) ab) lG.2.fn) gD) bY)))⟩
noncomputable def t7: {c //aP 1 (.ref 446) c}:=⟨_,aI ["self","sectors","shape"] [] ["bytearray"] [] [] (fun w=>rfl) rfl (fun w=>rfl) rfl rfl rfl bN (aF rfl (p_ fun ψ ψ ψ=>rfl)) (by decide +kernel)
 (ai (bk (aq (sV 2) dQ (fun ψ=>rfl)) (sV 0) zr rfl) (ai (bk (sC (.head _) tS (aG rfl) (sA (ak (sV 1) (aq (sV 2) dQ (fun ψ=>rfl)) gD) ab) Nf) (sV 0) uk rfl) (ai (bk (cO ab) (sV 0) xl rfl) (ai (bk je (sV 0) zt rfl) (ai (bk ag (sV 0) BS rfl) (ar (bk ag (sV 0) zu rfl)))))))⟩
noncomputable def FV: {c //aP 2 (.ref 526) c}:=⟨_,md ML t7.2⟩
noncomputable def jv: {c //aP 1 (.ref 453) c}:=⟨_,aI ["self"] [] ["len"] [] [] (fun w=>rfl) rfl (fun w=>rfl) rfl rfl rfl bN (aF rfl (gE fun ψ=>rfl)) (by decide +kernel)
 (ar (aT (ak (sC (.head _) ew (aG rfl) (sA (aq (sV 0) gL (fun ψ=>rfl)) ab) ey) (aq (sV 0) dQ (fun ψ=>rfl)) fb)))⟩
noncomputable def jU: {c //aP 2 (.ref 460) c}:=⟨_,aI ["self","sector","many"] [] [] [] [] (fun w=>rfl) rfl (fun w=>rfl) rfl rfl rfl bN (aF rfl (p_ fun ψ ψ ψ=>rfl)) (by decide +kernel)
 (ar (bM (bG (b4 (aD (sV 1) ag fR rfl) (b4 (aD (sV 2) ag fR rfl) (b4 (aD (ak (sV 1) (sV 2) bY) (aL (sV 0) ab (fun ψ=>rfl) (.cons p7 p8 jv.2.fn (by decide) .nil) (fun ψ=>⟨_,rfl⟩)) kY rfl) dX)))) (cq cn) bu))⟩
noncomputable def iM: {c //aP 3 (.ref 467) c}:=⟨_,aI ["self","sector","many"] ["found","place","octets","at"] ["bytes"] [] [] (fun w=>rfl) rfl (fun w=>rfl) rfl rfl rfl bN (aF rfl (p_ fun ψ ψ ψ=>rfl)) (by decide +kernel)
 (ai (bp (aL (sV 0) (sA (sV 1) (sA (sV 2) ab)) (fun ψ=>rfl) (.cons pA pB jU.2.fn (by decide) .nil) (fun ψ=>⟨_,rfl⟩)) rfl) (ai (bM (gu (aq (sV 0) qx (fun ψ=>rfl)) (fun ψ=>rfl)) (ar (aT d9)) bu) (ai (bk (ak (aq (sV 0) Kv (fun ψ=>rfl)) (sV 2) bY) (sV 0) BS rfl) (ai (bh 3 rfl (eA (aq (sV 0) gL (fun ψ=>rfl)) (b8 (ak (sV 1) (aq (sV 0) dQ (fun ψ=>rfl)) gD)) (b8 (ak (ak (sV 1) (sV 2) bY) (aq (sV 0) dQ (fun ψ=>rfl)) gD))) rfl) (ai (dK (aY (aq (sV 0) rV (fun ψ=>rfl))) (fq (.cons (i:=4) rfl (fun h=>nomatch h) (.cons (i:=5) rfl (fun h=>nomatch h) .nil))) (ar (bM (gC (sV 1) (sV 4) (ak (sV 1) (sV 2) bY) fQ fR rfl) (ai (bh 6 rfl (ak (ak (sV 4) (sV 1) oR) (aq (sV 0) dQ (fun ψ=>rfl)) gD) rfl) (ar (zP (sV 5) (sV 3) (b8 (sV 6)) (b8 (ak (sV 6) (aq (sV 0) dQ (fun ψ=>rfl)) bY)) rfl))) bu)) (fun ψ ψ=>rfl)) (ar (aT (sC (.head _) jr (aG rfl) (sA (sV 3) ab) ju))))))))⟩
noncomputable def nZ: {c //aP 3 (.ref 474) c}:=⟨_,aI ["self","sector","octets"] ["many","place"] ["len","range","bytes"] [] [] (fun w=>rfl) rfl (fun w=>rfl) rfl rfl rfl bN (aF rfl (p_ fun ψ ψ ψ=>rfl)) (by decide +kernel)
 (ai (bM (aD (ak (sC (.head _) ew (aG rfl) (sA (sV 2) ab) ey) (aq (sV 0) dQ (fun ψ=>rfl)) dU) ag jh rfl) (cq cn) bu) (ai (bh 3 rfl (ak (sC (.head _) ew (aG rfl) (sA (sV 2) ab) ey) (aq (sV 0) dQ (fun ψ=>rfl)) fb) rfl) (ai (bp (aL (sV 0) (sA (sV 1) (sA (sV 3) ab)) (fun ψ=>rfl) (.cons pA pB jU.2.fn (by decide) .nil) (fun ψ=>⟨_,rfl⟩)) rfl) (ai (bM (gu (aq (sV 0) qx (fun ψ=>rfl)) (fun ψ=>rfl)) (ar (aT je)) bu) (ai (dK (aY (sC (mi 1 rfl) kz (aG rfl) (sA (sV 3) ab) kD)) (bB 4 rfl (fun h=>nomatch h)) (ar (bp (ez (aq (sV 0) rV (fun ψ=>rfl)) (sA (b6 (sA (ak (sV 1) (sV 4) bY) (sA (sC (.tail _ (mi 1 rfl)) jr (aG rfl) (sA (eA (sV 2) (b8 (ak (sV 4) (aq (sV 0) dQ (fun ψ=>rfl)) gD)) (b8 (ak (ak (sV 4) ag bY) (aq (sV 0) dQ (fun ψ=>rfl)) gD))) ab) ju) ab))) ab) (fun ψ=>rfl) (gj F.slot_list_append F.type_list_append) uv (fun ψ=>⟨_,rfl⟩)) rfl)) (fun ψ ψ=>rfl)) (ai (bk (ak (aq (sV 0) H6 (fun ψ=>rfl)) (sV 3) bY) (sV 0) zu rfl) (ar (aT je))))))))⟩
noncomputable def qC: {c //aP 1 (.ref 481) c}:=⟨_,aI ["self","sector","octets"] [] [] [] [] (fun w=>rfl) rfl (fun w=>rfl) rfl rfl rfl bN (aF rfl (p_ fun ψ ψ ψ=>rfl)) (by decide +kernel)
 (ar (zP (sV 2) (aq (sV 0) gL (fun ψ=>rfl)) (b8 (ak (sV 1) (aq (sV 0) dQ (fun ψ=>rfl)) gD)) (b8 (ak (ak (sV 1) ag bY) (aq (sV 0) dQ (fun ψ=>rfl)) gD)) rfl))⟩
noncomputable def n_: {c //aP 2 (.ref 488) c}:=⟨_,aI ["self"] ["sector","octets"] [] [] [] (fun w=>rfl) rfl (fun w=>rfl) rfl rfl rfl bN (aF rfl (gE fun ψ=>rfl)) (by decide +kernel)
 (ai (bM (gu (aq (sV 0) qx (fun ψ=>rfl)) (fun ψ=>rfl)) (ar (aT je)) bu) (ai (dK (aY (aq (sV 0) rV (fun ψ=>rfl))) (fq (.cons (i:=1) rfl (fun h=>nomatch h) (.cons (i:=2) rfl (fun h=>nomatch h) .nil))) (ar (bp (aL (sV 0) (sA (sV 1) (sA (sV 2) ab)) (fun ψ=>rfl) (.cons Dk Dl qC.2.fn (by decide) .nil) (fun ψ=>⟨_,rfl⟩)) rfl)) (fun ψ ψ=>rfl)) (ai (bk (cO ab) (sV 0) xl rfl) (ar (aT je)))))⟩
noncomputable def pJ: {c //aP 3 (.ref 516) c}:=⟨_,aI ["self","sector","at","octet"] [] [] [] [] (fun w=>rfl) rfl (fun w=>rfl) rfl rfl rfl bN (aF rfl (t6 fun ψ ψ ψ ψ=>rfl)) (by decide +kernel)
 (ai (bp (aL (sV 0) (sA (sV 1) (sA ag ab)) (fun ψ=>rfl) (.cons pA pB jU.2.fn (by decide) .nil) (fun ψ=>⟨_,rfl⟩)) rfl) (ai (bM (fZ (gC ag (sV 2) (aq (sV 0) dQ (fun ψ=>rfl)) fQ fR rfl)) (cq cn) bu) (ar (wB (sV 3) (aq (sV 0) gL (fun ψ=>rfl)) (ak (ak (sV 1) (aq (sV 0) dQ (fun ψ=>rfl)) gD) (sV 2) bY) rfl))))⟩
noncomputable def jx: {c //aP 4 (.ref 385) c}:=⟨_,aI ["disk","shape"] [] ["label_sectors"] [] [] (fun w=>rfl) rfl (fun w=>rfl) rfl rfl rfl bN (aF rfl (iE fun ψ ψ=>rfl)) (by decide +kernel)
 (ar (aT (cO (sA ag (sA (ak (aL (sV 0) ab (fun ψ=>rfl) (.cons p7 p8 jv.2.fn (by decide) .nil) (fun ψ=>⟨_,rfl⟩)) (sC (.head _) vb vc (sA (sV 1) ab) k9.2.fn) oR) ab)))))⟩
noncomputable def nh: {c //aP 2 (.ref 390) c}:=⟨_,aI ["octets"] ["first","second"] ["sum","enumerate","octets_of"] [] [] (fun w=>rfl) rfl (fun w=>rfl) rfl rfl rfl bN (aF rfl (gE fun ψ=>rfl)) (by decide +kernel)
 (ai (bh 1 rfl (ak ag (sC (.head _) Dd (aG rfl) (sA (sV 0) ab) DB) bY) rfl) (ai (bh 2 rfl (sC (.head _) Dd (aG rfl) (sA (cZ (own:= ["place","octet"]) (cap:= []) (gs:= []) (idx:= []) (by decide +kernel) (zZ (mi 1 rfl) tR (sV 0) (fun ψ=>rfl)) (fq (.cons (i:=0) rfl (fun ψ=>rfl) (.cons (i:=1) rfl (fun ψ=>rfl) .nil))) c_ (ak (ak (sV 0) ag bY) (sV 1) gD) (fun ψ ψ=>rfl)) ab) DB) rfl) (ar (aT (ak (sC (.tail _ (mi 1 rfl)) jQ jR (sA (ak (sV 1) (ak ag ag Dn) dU) (sA ag ab)) gO.2.fn) (sC (.tail _ (mi 1 rfl)) jQ jR (sA (ak (sV 2) (ak ag ag Dn) dU) (sA ag ab)) gO.2.fn) bY)))))⟩
noncomputable def mH: {c //aP 3 (.ref 397) c}:=⟨_,aI ["shape","octets"] ["size","rest"] ["config_sectors","SUM","LENGTH","len","octets_of","bytes","padded","part_sum"] [] [] (fun w=>rfl) rfl (fun w=>rfl) rfl rfl rfl bN (aF rfl (iE fun ψ ψ=>rfl)) (by decide +kernel)
 (ai (bh 2 rfl (ak (sC (.head _) kg kh (sA (sV 0) ab) gk.2.fn) (aq (sV 0) dQ (fun ψ=>rfl)) gD) rfl) (ai (bM (aD (ak (ak (bA (mi 1 rfl) qw) (bA (.tail _ (mi 1 rfl)) nR) bY) (sC (.tail _ (.tail _ (mi 1 rfl))) ew (aG rfl) (sA (sV 1) ab) ey) bY) (sV 2) kY rfl) (cq cn) bu) (ai (bh 3 rfl (ak (sC (.tail _ (.tail _ (.tail _ (mi 1 rfl)))) jQ jR (sA (sC (.tail _ (.tail _ (mi 1 rfl))) ew (aG rfl) (sA (sV 1) ab) ey) (sA (bA (.tail _ (mi 1 rfl)) nR) ab)) gO.2.fn) (sC (.tail _ (.tail _ (.tail _ (.tail _ (mi 1 rfl))))) jr (aG rfl) (sA (sV 1) ab) ju) bY) rfl) (ar (aT (sC (.tail _ (.tail _ (.tail _ (.tail _ (.tail _ (mi 1 rfl)))))) HU HV (sA (ak (sC (.tail _ (.tail _ (.tail _ (.tail _ (.tail _ (.tail _ (mi 1 rfl))))))) vd ve (sA (sV 3) ab) nh.2.fn) (sV 3) bY) (sA (sV 2) ab)) uz.2.fn))))))⟩
noncomputable def pK: {c //aP 3 (.ref 404) c}:=⟨_,aI ["part"] ["end"] ["SUM","LENGTH","number_of","len","part_sum"] [] [] (fun w=>rfl) rfl (fun w=>rfl) rfl rfl rfl bN (aF rfl (gE fun ψ=>rfl)) (by decide +kernel)
 (ai (bh 1 rfl (ak (ak (bA (.head _) qw) (bA (mi 1 rfl) nR) bY) (sC (.tail _ (mi 1 rfl)) jO jP (sA (eA (sV 0) (b8 (bA (.head _) qw)) (b8 (ak (bA (.head _) qw) (bA (mi 1 rfl) nR) bY))) ab) gN.2.fn) bY) rfl) (ai (bM (bG (b4 (aD (sV 1) (sC (.tail _ (.tail _ (mi 1 rfl))) ew (aG rfl) (sA (sV 0) ab) ey) kY rfl) (b4 (aD (sC (.tail _ (.tail _ (.tail _ (mi 1 rfl)))) vd ve (sA (eA (sV 0) (b8 (bA (.head _) qw)) (b8 (sV 1))) ab) nh.2.fn) (eA (sV 0) fL (b8 (bA (.head _) qw))) jh rfl) dX))) (ar (aT d9)) bu) (ar (aT (eA (sV 0) (b8 (ak (bA (.head _) qw) (bA (mi 1 rfl) nR) bY)) (b8 (sV 1)))))))⟩
noncomputable def oa: {c //aP 5 (.ref 411) c}:=⟨_,aI ["disk","shape","octets"] ["part","begin"] ["config_part","label_begins"] [] [] (fun w=>rfl) rfl (fun w=>rfl) rfl rfl rfl bN (aF rfl (p_ fun ψ ψ ψ=>rfl)) (by decide +kernel)
 (ai (bh 3 rfl (sC (.head _) xT xU (sA (sV 1) (sA (sV 2) ab)) mH.2.fn) rfl) (ar (dK (aY (sC (mi 1 rfl) pZ p6 (sA (sV 0) (sA (sV 1) ab)) jx.2.fn)) (bB 4 rfl (fun h=>nomatch h)) (ar (bp (aL (sV 0) (sA (sV 4) (sA (sV 3) ab)) (fun ψ=>rfl) (.cons zx zy nZ.2.fn (by decide) .nil) (fun ψ=>⟨_,rfl⟩)) rfl)) (fun ψ ψ=>rfl))))⟩
noncomputable def gx: {c //aP 5 (.ref 418) c}:=⟨_,aI ["disk","shape"] ["begin","part","found"] ["label_begins","config_sectors","config_in"] [] [] (fun w=>rfl) rfl (fun w=>rfl) rfl rfl rfl bN (aF rfl (iE fun ψ ψ=>rfl)) (by decide +kernel)
 (ai (dK (aY (sC (.head _) pZ p6 (sA (sV 0) (sA (sV 1) ab)) jx.2.fn)) (bB 2 rfl (fun h=>nomatch h)) (ai (bh 3 rfl (aL (sV 0) (sA (sV 2) (sA (sC (mi 1 rfl) kg kh (sA (sV 1) ab) gk.2.fn) ab)) (fun ψ=>rfl) (.cons A7 A8 iM.2.fn (by decide) .nil) (fun ψ=>⟨_,rfl⟩)) rfl) (ai (bh 4 rfl (kO (aD (sV 3) d9 Ij rfl) d9 (sC (.tail _ (mi 1 rfl)) A3 A4 (sA (sV 3) ab) pK.2.fn)) rfl) (ar (bM (aD (sV 4) d9 nE rfl) (ar (aT (sV 4))) bu)))) (fun ψ ψ=>rfl)) (ar (aT d9)))⟩
noncomputable def lH: {c //aP 7 (.ref 425) c}:=⟨_,aI ["guid","config"] [] ["octets_of","GUID","config_octets"] [] [] (fun w=>rfl) rfl (fun w=>rfl) rfl rfl rfl bN (aF rfl (iE fun ψ ψ=>rfl)) (by decide +kernel)
 (ar (aT (ak (sC (.head _) jQ jR (sA (sV 0) (sA (bA (mi 1 rfl) rU) ab)) gO.2.fn) (sC (.tail _ (mi 1 rfl)) oO oP (sA (sV 1) ab) iW.2.fn) bY)))⟩
noncomputable def lI: {c //aP 8 (.ref 432) c}:=⟨_,aI ["disks","config","shape"] ["guid"] ["sorted","put_config","label_octets"] [] [] (fun w=>rfl) rfl (fun w=>rfl) rfl rfl rfl bN (aF rfl (p_ fun ψ ψ ψ=>rfl)) (by decide +kernel)
 (ar (dK (aY (sC (.head _) uj (aG rfl) (sA (sV 0) ab) uw)) (bB 3 rfl (fun h=>nomatch h)) (ai (bp (sC (mi 1 rfl) zm zo (sA (bK (sV 0) (sV 3) (fun ψ ψ=>rfl)) (sA (sV 2) (sA (sC (.tail _ (mi 1 rfl)) wi wj (sA (sV 3) (sA (sV 1) ab)) lH.2.fn) ab))) oa.2.fn) rfl) (ar (bp (aL (bK (sV 0) (sV 3) (fun ψ ψ=>rfl)) ab (fun ψ=>rfl) (.cons zz zA n_.2.fn (by decide) .nil) (fun ψ=>⟨_,rfl⟩)) rfl))) (fun ψ ψ=>rfl)))⟩
end
section
noncomputable def gF: {c //aP 1 (.ref 542) c}:=⟨_,aI ["script","at"] [] ["len"] [] [] (fun w=>rfl) rfl (fun w=>rfl) rfl rfl rfl bN (aF rfl (iE fun ψ ψ=>rfl)) (by decide +kernel)
 (ar (aT (kO (aD (sV 1) (sC (.head _) ew (aG rfl) (sA (sV 0) ab) ey) fR rfl) (bK (sV 0) (sV 1) (fun ψ ψ=>rfl)) (ak (ak ag (sV 1) gD) ag bY))))⟩
noncomputable def iN: {c //aP 1 (.ref 547) c}:=⟨_,aI ["many","way"] ["plans"] ["range"] [] [] (fun w=>rfl) rfl (fun w=>rfl) rfl rfl rfl bN (aF rfl (iE fun ψ ψ=>rfl)) (by decide +kernel)
 (ai (qt 2 rfl rfl (by decide +kernel) (own:= ["k"]) (cap:= []) (gs:= []) (idx:= []) (by decide +kernel) (aY (sC (.head _) kz (aG rfl) (sA (sV 0) ab) kD)) (bB 0 rfl (fun ψ=>rfl)) c_ (b6 (sA cH (sA (ak ag (sV 0) bY) ab))) (fun ψ ψ=>rfl)) (ai (bM (bG (bS (aD (sV 1) ag eT rfl) (bS (aD (sV 0) ag kY rfl) dz))) (ar (aT (ak (cO (sA (b6 (sA cH (sA (eA (sV 2) fL (b8 ag)) ab))) ab)) (eA (sV 2) (b8 ag) fL) bY))) bu) (ar (aT (kO (bG (bS (aD (sV 1) ag eT rfl) (bS (aD (sV 0) ag kY rfl) dz))) (ak (cO (sA (b6 (sA cH (sA ag (sA (eA (sV 2) fL (b8 ag)) ab)))) ab)) (eA (sV 2) (b8 ag) fL) bY) (sV 2))))))⟩
noncomputable def mI: {c //aP 6 (.ref 554) c}:=⟨_,aI ["script"] ["a","b","c","first","second"] ["_law_cell","config_of_plans","_law_plans"] [] [] (fun w=>rfl) rfl (fun w=>rfl) rfl rfl rfl bN (aF rfl (gE fun ψ=>rfl)) (by decide +kernel)
 (ai (lF (names:= ["a","b","c"]) (b6 (sA (sC (.head _) jn jq (sA (sV 0) (sA ag ab)) gF.2.fn) (sA (sC (.head _) jn jq (sA (sV 0) (sA ag ab)) gF.2.fn) (sA (sC (.head _) jn jq (sA (sV 0) (sA ag ab)) gF.2.fn) ab)))) (.cons (i:=3) rfl (.cons (i:=2) rfl (.cons (i:=1) rfl .nil))) rfl rfl (fun ψ=>by kernel_rfl!)) (ai (bh 4 rfl (sC (mi 1 rfl) jF jG (sA (ak cH (bK cH (ak (sV 1) ag dU) (fun ψ ψ=>rfl)) bY) (sA (ak ag (ak (sV 2) ag dU) bY) (sA (sC (.tail _ (mi 1 rfl)) pw px (sA (ak ag (ak (ak (sV 1) ag fb) ag dU) bY) (sA (ak (ak (sV 1) ag fb) ag dU) ab)) iN.2.fn) (sA (ak ag (ak (ak (sV 1) ag fb) ag dU) bY) ab)))) fP.2.fn) rfl) (ai (bh 5 rfl (sC (mi 1 rfl) jF jG (sA (aq (sV 4) zq (fun ψ=>rfl)) (sA (aq (sV 4) fF (fun ψ=>rfl)) (sA (sC (.tail _ (mi 1 rfl)) pw px (sA (ak ag (ak (ak (sV 2) ag fb) ag dU) bY) (sA (ak (ak (sV 2) ag fb) ag dU) ab)) iN.2.fn) (sA (ak ag (ak (ak (sV 2) ag fb) ag dU) bY) ab)))) fP.2.fn) rfl) (ar (aT (cO (sA (sV 4) (sA (sV 5) (sA (sC (mi 1 rfl) jF jG (sA cH (sA ag (sA (sC (.tail _ (mi 1 rfl)) pw px (sA (ak ag (ak (sV 3) ag dU) bY) (sA (ak (ak (sV 3) ag fb) ag dU) ab)) iN.2.fn) (sA (ak ag (ak (ak (sV 3) ag fb) ag dU) bY) ab)))) fP.2.fn) ab)))))))))⟩
noncomputable def ni: {c //aP 4 (.ref 561) c}:=⟨_,aI ["disk","begin","at","step"] ["place"] [] [] [] (fun w=>rfl) rfl (fun w=>rfl) rfl rfl rfl bN (aF rfl (t6 fun ψ ψ ψ ψ=>rfl)) (by decide +kernel)
 (ai (bh 4 rfl (ak (ak (sV 1) ag gD) (sV 2) bY) rfl) (ar (bp (aL (sV 0) (sA (ak (sV 4) ag fb) (sA (ak (sV 4) ag dU) (sA (ak (ak (bK (aq (sV 0) gL (fun ψ=>rfl)) (sV 4) (fun ψ ψ=>rfl)) (sV 3) bY) ag dU) ab))) (fun ψ=>rfl) (.cons A9 A_ pJ.2.fn (by decide) .nil) (fun ψ=>⟨_,rfl⟩)) rfl)))⟩
noncomputable def qD: {c //aP 9 (.ref 568) c}:=⟨_,aI ["shape","configs","x"] ["disk","which","number","config","y","end","at","step"] ["Disk","write_labels","dict","len","config_octets","_law_harm"] [] [] (fun w=>rfl) rfl (fun w=>rfl) rfl rfl rfl bN (aF rfl (p_ fun ψ ψ ψ=>rfl)) (by decide +kernel)
 (ai (lF (names:= ["disk","which","number"]) (b6 (sA (sC (.head _) MD ME (sA ag (sA (sV 0) ab)) FV.2.fn) (sA (ak (sV 2) ag dU) (sA (ak ag (ak (ak (sV 2) ag fb) ag dU) bY) ab)))) (.cons (i:=5) rfl (.cons (i:=4) rfl (.cons (i:=3) rfl .nil))) rfl rfl (fun ψ=>by kernel_rfl!)) (ai (bM (aD (sV 4) ag eT rfl) (ar (aT (b6 (sA (sV 3) (sA d9 ab))))) bu) (ai (lF (names:= ["config","y"]) (b6 (sA (bK (sV 1) (sV 4) (fun ψ ψ=>rfl)) (sA (ak (sV 2) ag fb) ab))) (.cons (i:=7) rfl (.cons (i:=6) rfl .nil)) rfl rfl (fun ψ=>by kernel_rfl!)) (ai (bp (sC (mi 1 rfl) wk wm (sA (sC (.tail _ (mi 1 rfl)) MI (aG rfl) (sA (cO (sA (b6 (sA (sV 5) (sA (sV 3) ab))) ab)) ab) Iv) (sA (sV 6) (sA (sV 0) ab))) lI.2.fn) rfl) (ai (lF (names:= ["end","at","step"]) (b6 (sA (ak ag (sC (.tail _ (.tail _ (mi 1 rfl))) ew (aG rfl) (sA (sC (.tail _ (.tail _ (.tail _ (mi 1 rfl)))) oO oP (sA (sV 6) ab) iW.2.fn) ab) ey) bY) (sA (ak (ak (sV 7) ag fb) ag dU) (sA (ak ag (ak (ak (sV 7) ag fb) ag dU) bY) ab)))) (.cons (i:=10) rfl (.cons (i:=9) rfl (.cons (i:=8) rfl .nil))) rfl rfl (fun ψ=>by kernel_rfl!)) (ai (bM (aD (ak (sV 7) ag dU) (b6 (sA ag (sA ag ab))) Ik rfl) (ar (bp (sC (.tail _ (.tail _ (.tail _ (.tail _ (mi 1 rfl))))) vf vg (sA (sV 3) (sA ag (sA (sV 9) (sA (sV 10) ab)))) ni.2.fn) rfl)) bu) (ai (bM (aD (ak (sV 7) ag dU) (b6 (sA ag (sA ag ab))) Ik rfl) (ar (bp (sC (.tail _ (.tail _ (.tail _ (.tail _ (mi 1 rfl))))) vf vg (sA (sV 3) (sA ag (sA (sV 9) (sA (sV 10) ab)))) ni.2.fn) rfl)) bu) (ai (bk (Iq (BK (ak (sV 7) ag dU) ag eT rfl) (BK (ak (ak (sV 7) ag fb) ag dU) ag eT rfl)) (sV 3) zt rfl) (ar (aT (b6 (sA (sV 3) (sA (kO (bG (b4 (gu (aq (sV 3) qx (fun ψ=>rfl)) (fun ψ=>rfl)) (b4 (bG (bS (aD (ak (sV 7) ag dU) ag eT rfl) (bS (aD (sV 9) (sV 8) fR rfl) dz))) dX))) d9 (b6 (sA (sV 5) (sA (sV 4) ab)))) ab)))))))))))))⟩
noncomputable def qE: {c //aP 8 (.ref 575) c}:=⟨_,aI ["disk","shape"] ["octets"] ["read_config","number_of","config_of"] [] [] (fun w=>rfl) rfl (fun w=>rfl) rfl rfl rfl bN (aF rfl (iE fun ψ ψ=>rfl)) (by decide +kernel)
 (ai (bh 2 rfl (sC (.head _) mw mx (sA (sV 0) (sA (sV 1) ab)) gx.2.fn) rfl) (ar (aT (kO (aD (sV 2) d9 Ij rfl) d9 (b6 (sA (sC (mi 1 rfl) jO jP (sA (eA (sV 2) fL (b8 ag)) ab) gN.2.fn) (sA (aL (sC (.tail _ (mi 1 rfl)) pq pv (sA (eA (sV 2) (b8 ag) fL) ab) jT.2.fn) ab (fun ψ=>rfl) (.cons js jt f9.2.fn (by decide) .nil) (fun ψ=>⟨_,rfl⟩)) ab)))))))⟩
noncomputable def mJ: {c //aP 8 (.ref 535) c}:=⟨_,aI ["disks","shape"] ["rows","disk","octets","newest","config","own","guid","other"] ["read_config","number_of","GUID","config_of","max","all_disks"] [] [] (fun w=>rfl) rfl (fun w=>rfl) rfl rfl rfl bN (aF rfl (iE fun ψ ψ=>rfl)) (by decide +kernel)
 (ai (bh 2 rfl (cO ab) rfl) (ai (dK (aY (sV 0)) (bB 3 rfl (fun h=>nomatch h)) (ai (bh 4 rfl (sC (.head _) mw mx (sA (sV 3) (sA (sV 1) ab)) gx.2.fn) rfl) (ar (bM (aD (sV 4) d9 nE rfl) (ar (wH (ar (bp (ez (sV 2) (sA (b6 (sA (sC (mi 1 rfl) jO jP (sA (eA (sV 4) fL (b8 (bA (.tail _ (mi 1 rfl)) rU))) ab) gN.2.fn) (sA (sC (.tail _ (.tail _ (mi 1 rfl))) pq pv (sA (eA (sV 4) (b8 (bA (.tail _ (mi 1 rfl)) rU)) fL) ab) jT.2.fn) (sA (sV 3) ab)))) ab) (fun ψ=>rfl) (gj F.slot_list_append F.type_list_append) uv (fun ψ=>⟨_,rfl⟩)) rfl)))) bu))) (fun ψ ψ=>rfl)) (ai (bM (aD (sV 2) (cO ab) eT rfl) (cq cn) bu) (ai (bh 5 rfl (sC (.tail _ (.tail _ (.tail _ (mi 1 rfl)))) Df (aG rfl) (sA (cZ (own:= ["guid","config","disk"]) (cap:= []) (gs:= []) (idx:= []) (by decide +kernel) (aY (sV 2)) (fq (.cons (i:=0) rfl (fun ψ=>rfl) (.cons (i:=1) rfl (fun ψ=>rfl) (.cons (i:=2) rfl (fun ψ=>rfl) .nil)))) c_ (aq (sV 1) kA (fun ψ=>rfl)) (fun ψ ψ=>rfl)) ab) DE) rfl) (ai (lF (names:= ["config","own"]) (b6 (sA (bK (cZ (own:= ["row"]) (cap:= ["newest"]) (gs:= []) (idx:= [5]) (by decide +kernel) (aY (sV 2)) (bB 0 rfl (fun ψ=>rfl)) (wb (aD (aq (bK (sV 0) ag (fun ψ ψ=>rfl)) kA (fun ψ=>rfl)) (sV 1) eT rfl)) (bK (sV 0) ag (fun ψ ψ=>rfl)) (fun ψ ψ=>rfl)) ag (fun ψ ψ=>rfl)) (sA xq ab))) (.cons (i:=7) rfl (.cons (i:=6) rfl .nil)) rfl rfl (fun ψ=>by kernel_rfl!)) (ai (dK (aY (sV 2)) (fq (.cons (i:=8) rfl (fun h=>nomatch h) (.cons (i:=9) rfl (fun h=>nomatch h) (.cons (i:=3) rfl (fun h=>nomatch h) .nil)))) (ar (bM (bG (bS (aD (aq (sV 9) fF (fun ψ=>rfl)) (aq (sV 6) fF (fun ψ=>rfl)) eT rfl) (bS (aD (sV 8) (sC (.tail _ (.tail _ (.tail _ (.tail _ (mi 1 rfl))))) A1 A2 (sA (sV 6) ab) pG.2.fn) Ik rfl) (bS (aD (sV 8) (sV 7) s_ rfl) dz)))) (ar (wB (sV 3) (sV 7) (sV 8) rfl)) bu)) (fun ψ ψ=>rfl)) (ar (aT (b6 (sA (sV 6) (sA (sV 7) ab)))))))))))⟩
end
section
variable {m m1:MH}{o:MO}{i k:Nat}{α β:Type}{c co d dy:av->MM MV}{v:MV}{fr:av}{ci:av->MM Src}{idx:List Nat}{src:Src}{a b n:Int}{tg:MV->SM}{test:av->MM Bool}{f:Nat->MV}{F:List MV->MM MV}{ca:av->MM (List MV)}
structure Ext (m m':MH):Prop where
 n:m.n<=m'.n
 ob:∀i,i<m.n->m'.ob i=m.ob i
theorem Ext.refl(m:MH):Ext m m:=⟨dT _,fun ψ ψ=>rfl⟩
theorem Ext.trans{a b c:MH}(x:Ext a b)(y:Ext b c):Ext a c:=⟨jb x.n y.n,fun i h=>(y.ob i (eD h x.n)).trans (x.ob i h)⟩
theorem Ext.new(m:MH)(o:MO):Ext m (m.new o):=⟨Nat.le_succ _,fun i h=>if_neg (Nat.ne_of_lt h)⟩
theorem bc(m:MH)(o:MO):(m.new o).ob m.n=o:=if_pos rfl
theorem et(m:MH)(o:MO):(m.new o).n=m.n+1:=rfl
theorem cU(h:i<m.n):(m.new o).ob i=m.ob i:=if_neg (Nat.ne_of_lt h)
theorem fK(m:MH)(i:Nat)(o:MO):(m.set i o).ob i=o:=if_pos rfl
theorem sk(m:MH)(i:Nat)(o:MO):(m.set i o).n=m.n:=rfl
theorem cc{j:Nat}(h:j≠i):(m.set i o).ob j=m.ob j:=if_neg h
theorem MM.eH{c:MM α}{f:α->MM β}{a:α}(h:c m=some (a,m1)):MM.bind c f m=f a m1:=by unfold MM.bind;rw [h]
theorem SM.DO{k:MV->SM}(h:c fr m=some (v,m1)):SM.use c k fr m=k v fr m1:=by unfold SM.use;rw [h]
theorem SM.JH{c d:SM}{el:av}(h:c fr m=some (.next,el,m1)):SM.seq c d fr m=d el m1:=by unfold SM.seq;rw [h]
theorem SM.FW{c:av->MM Bool}{a b:SM}{v:Bool}(h:c fr m=some (v,m1)):SM.test c a b fr m=(bif v then a fr m1 else b fr m1):=by unfold SM.test;rw [h]
theorem aV{γ:Type}{q:Option γ}{x:γ}{f:γ->Option β}(h:q=some x):q.bind f=f x:=by subst h;rfl
theorem B_{k:av->MH->Option α}{o:Option (eG×av×MH)}(h:o=some (.next,fr,m)):CU k o=k fr m:=by subst h;rfl
section
variable {src:Src}{n r:Nat}{tg:MV->SM}{body:SM}{fr el:av}{m m1:MH}{v:MV}{test:av->MM Bool}{dy:av->MM MV}{ys zs:List MV}
theorem SM.Nw(hl:src.len m=some n)(h1:src.item (n-(r+1)) m=some v)(e1:tg v fr m=some (.next,el,m1)):SM.loop src n tg body (r+1) fr m=HA (SM.loop src n tg body r) (body el m1):=
 (if_pos hl).trans ((aV h1).trans (B_ e1))
theorem Ad{t:Bool×MH}(hl:src.len m=some n)(h1:src.item (n-(r+1)) m=some v)(e1:tg v fr m=some (.next,el,m1))(e2:test el m1=some t):
  gX src n tg test dy (r+1) ys fr m=bif t.1 then(dy el t.2).bind fun y=>gX src n tg test dy r (ys++ [y.1]) el y.2 else gX src n tg test dy r ys el t.2:=
 (if_pos hl).trans ((aV h1).trans ((B_ e1).trans (aV e2)))
theorem Ca{m2:MH}(hc:ci fr m=some (src,m1))(hl:src.len m1=some n)(hn:n<=100000)(e:gX src n tg test dy n [] (List.replicate k none++idx.map (slot fr)) m1=some (zs,m2)):jf ci k idx tg test dy fr m=some (.obj m2.n,m2.new (.list zs)):=
 (aV hc).trans ((aV hl).trans ((if_pos hn).trans (aV e)))
end
theorem vz{n:Nat}(Inv:av->Prop)(hl:src.len m=some n)
  (DP:∀k,k<n->∃v,src.item k m=some v/\∀fr,Inv fr->∃fD,tg v fr m=some (.next,fD,m)/\Inv fD/\test fD m=some (true,m)/\dy fD m=some (f k,m)):
  ∀r ys fr,r<=n->Inv fr->gX src n tg test dy r ys fr m=some (ys++(List.range' (n-r) r).map f,m)
 |0,ys,fr,h,i=>(if_pos hl).trans (by simp)
 |r+1,ys,fr,h,i=>by
  obtain⟨v,h1,h2⟩:=DP (n-(r+1)) (by exact Tw h);obtain⟨fD,q1,q2,q3,q4⟩:=h2 fr i;refine(Ad (t:=(true,m)) hl h1 q1 q3).trans ((aV (x:=(f (n-(r+1)),m)) q4).trans ?_);rw [vz Inv hl DP r (ys++ [f (n-(r+1))]) fD (by exact Pd h) q2];rw [show n-r=n-(r+1)+1 by exact X_ h,List.range'_succ];simp
theorem kG{n:Nat}(Inv:av->Prop)(hc:ci fr m=some (src,m1))(hl:src.len m1=some n)(hn:n<=100000)
  (h0:Inv (List.replicate k none++idx.map (slot fr)))
  (DP:∀k,k<n->∃v,src.item k m1=some v/\∀fr,Inv fr->∃fD,tg v fr m1=some (.next,fD,m1)/\Inv fD/\test fD m1=some (true,m1)/\dy fD m1=some (f k,m1)):
  jf ci k idx tg test dy fr m=some (.obj m1.n,m1.new (.list ((List.range n).map f))):=by
 rw [Ca hc hl hn (vz Inv hl DP n [] _ (dT _) h0)];simp [List.range_eq_range']
noncomputable def bO(k:Nat)(n:Int):List UInt8:=(List.range k).map fun p=>((n.fdiv (2 ^ (8*p))).fmod 256).toNat.toUInt8
theorem Qt(h:0<=a):Builtin.bitAnd a 255=a.fmod 256:=by
 rw [PyProof.Rows.bitAnd_pp h (bR rfl)];obtain⟨k,rfl⟩:∃k:Nat,a=k:=⟨a.toNat,by exact Pj h⟩;rw [l7,show(255:Int).toNat=2 ^ 8-1 from rfl,Nat.and_two_pow_sub_one_eq_mod,Int.fmod_eq_emod_of_nonneg _ (bR rfl)]
 omega
theorem fdiv_pow(h:0<=n)(p:Nat):0<=n.fdiv (2 ^ p):=Int.fdiv_nonneg h (Int.le_of_lt (Int.pow_pos (bR rfl)))
section
variable {β:Type}{o:MO}
theorem cC{x:List MV}{f:List MV->Option β}(h:o= .list x):o.gQ.bind f=f x:=by subst h;rfl
theorem Ae{x:List UInt8}{f:List UInt8->Option β}(h:o= .ba x):o.Km.bind f=f x:=by subst h;rfl
theorem inst_bind{x:Addr}{f:Addr->Option β}(h:o= .inst x):o.inst?.bind f=f x:=by subst h;rfl
theorem wI{x:List (Str×MV)}{f:List (Str×MV)->Option β}(h:o= .dO x):o.EN.bind f=f x:=by subst h;rfl
theorem Af{x:List (Int×MV)}{f:List (Int×MV)->Option β}(h:o= .dict x):o.Hr.bind f=f x:=by subst h;rfl
end
section
variable {m:MH}{i:Nat}{C:Addr}{cs:List Addr}{k:Str}{fs:List (Str×MV)}
theorem get_eq(a:m.ob i= .inst C)(r:m.ob (i+1)= .dO fs)(hC:C∈cs)(hf:lx k fs=some v)(hp:v.plain=true):u5 cs k (.obj i) m=some (v,m):=
 (inst_bind a).trans ((if_pos hC).trans ((wI r).trans ((aV hf).trans (if_pos hp))))
theorem vA(a:m.ob i= .inst C)(r:m.ob (i+1)= .dO fs)(hf:lx k fs=none):qv k [(C,F)] (.obj i) m=some (F,m):=
 (inst_bind a).trans ((wI r).trans ((if_pos hf).trans (aV (by rw [List.lookup_cons,beq_self_eq_true]))))
theorem k_{x:MV}(a:m.ob i= .inst C)(r:m.ob (i+1)= .dO fs)(hC:C∈cs)(hi:i<m.n)(hf:fs.length<=100):pW cs k (.obj i) x m=some ((),m.set (i+1) (.dO (u3 k x fs))):=
 (inst_bind a).trans ((if_pos ⟨hC,hi⟩).trans ((wI r).trans (if_pos hf)))
end
theorem JI{b:List UInt8}(o:m.ob i= .ba b):ye JE (.obj i) m=some ((),m):=if_pos (by show((m.ob i).Km).isSome=true;rw [o];rfl)
theorem Nx{b:List MV}(o:m.ob i= .list b):ye Il (.obj i) m=some ((),m):=if_pos (by show((m.ob i).gQ).isSome=true;rw [o];rfl)
theorem gG(f:Int->Int->Bool)(a b:Int)(m:MH):kX f (.int a) (.int b) m=some (f a b,m):=rfl
theorem KX(a b:Int)(m:MH):zK (.int a) (.int b) m=some (.int (a+b),m):=rfl
theorem FX(a b:Int)(m:MH):Jq (.int a) (.int b) m=some (.int (a-b),m):=rfl
theorem Ny(a b:Int)(m:MH):Sm (.int a) (.int b) m=some (.int (Builtin.bitAnd a b),m):=rfl
theorem Nz(h:0<=b):MZ (.int a) (.int b) m=some (.int (a.fdiv (2 ^ b.toNat)),m):=if_pos h
theorem NA(h:0<=b/\b<=1000000/\a.natAbs<2 ^ 64):MY (.int a) (.int b) m=some (.int (a*2 ^ b.toNat),m):=if_pos h
theorem vB(h:a.natAbs<2 ^ 64\/b.natAbs<2 ^ 64):BU (.int a) (.int b) m=some (.int (a*b),m):=if_pos h
theorem FY(h:0<=b/\b<=1000000/\a.natAbs<2 ^ 64):Js (.int a) (.int b) m=some (.int (a ^ b.toNat),m):=if_pos h
theorem Cb(h:b≠0/\b.natAbs<2 ^ 64):Dm (.int a) (.int b) m=some (.int (a.fdiv b),m):=if_pos h
theorem F0(h:b≠0):Jr (.int a) (.int b) m=some (.int (a.fmod b),m):=if_pos h
theorem DQ(a:α)(m:MH):MM.ret a m=some (a,m):=rfl
theorem UU(h:slot fr i=some v):rd fr i m=some (v,m):=by unfold rd;rw [h]
section
variable {α β:Type}{fr:av}{m m1 m2 m3:MH}{v x y:MV}{xs:List MV}
theorem UW(a:α)(fr:av)(m:MH):Kc a fr m=some (a,m):=rfl
theorem Iw(h:slot fr i=some v):Rd i fr m=some (v,m):=UU h
theorem vC{c:av->MM β}{f:β->MM α}{b:β}(h:c fr m=some (b,m1)):oC c f fr m=f b m1:=MM.eH h
theorem qF{f:MV->MV->MM α}(h:c fr m=some (x,m1))(k:d fr m1=some (y,m2)):tj c d f fr m=f x y m2:=(MM.eH h).trans (MM.eH k)
theorem Iy{cs:av->MM (List MV)}(h:c fr m=some (x,m1))(k:cs fr m1=some (xs,m2)):AC c cs fr m=some (x::xs,m2):=(MM.eH h).trans (MM.eH k)
theorem F_{c d:av->MM Bool}{b:Bool}(h:c fr m=some (b,m1)):Jh c d fr m=(bif b then d fr else MM.ret false) m1:=MM.eH h
theorem JJ{c d:av->MM Bool}{b:Bool}(h:c fr m=some (b,m1)):PC c d fr m=(bif b then MM.ret true else d fr) m1:=MM.eH h
theorem JK{t:av->MM Bool}{b:Bool}(h:t fr m=some (b,m1)):PD t c d fr m=(bif b then c fr else d fr) m1:=MM.eH h
theorem JL{k:Str}{cands:List (Addr×(List MV->MM MV))}(h:co fr m=some (x,m1))(h2:qv k cands x m1=some (F,m2))(h3:ca fr m2=some (xs,m3)):MA k cands co ca fr m=F (x::xs) m3:=
 (MM.eH h).trans ((MM.eH h2).trans (MM.eH h3))
theorem JM{P:MH->MV->Bool}{f:List MV->MM MV}(h:co fr m=some (x,m1))(h2:ye P x m1=some ((),m2))(h3:ca fr m2=some (xs,m3)):Qi P f co ca fr m=f (x::xs) m3:=
 (MM.eH h).trans ((MM.eH h2).trans (MM.eH h3))
theorem JN{cv cl ch:av->MM MV}(h:cv fr m=some (v,m1))(h2:cl fr m1=some (x,m2))(h3:ch fr m2=some (y,m3)):M8 cv cl ch fr m=tY v x y m3:=
 (MM.eH h).trans ((MM.eH h2).trans (MM.eH h3))
theorem UX(x:MV)(m:MH):rS x m=some (srcOf x,m):=rfl
theorem adW(m:MH):rN true m=some (false,m):=rfl
end
theorem qG{dv:List MV}{r:Nat}{c:SM}{xs:List MV}{m':MH}{f:eG}(hl:xs.length<=k/\k<=xs.length+dv.length)(h:c ((xs++dv.drop (xs.length+dv.length-k)).map some++List.replicate r none) m=some (f,fr,m'))(hf:f= .ret v\/(f= .next/\v= .none)):
  dc k dv r c xs m=some (v,m'):=by
 unfold dc;rw [if_pos hl,h];rcases hf with rfl|⟨rfl,rfl⟩ <;> rfl
theorem vD(h:(k:Int)<2 ^ 60):(srcOf (.oz 0 k)).len m=some k:=by
 dsimp only [srcOf];rw [if_pos ⟨rfl,Int.natCast_nonneg _,h⟩,l7]
theorem KY(hn:0<=n)(k:Nat)(ks:List Nat):intsOf (ks.map fun p=>MV.int (Builtin.bitAnd (n.fdiv (2 ^ (8*p))) 255))=some (ks.map fun p=>(n.fdiv (2 ^ (8*p))).fmod 256):=by
 induction ks with
 |nil=>rfl
 |cons p r ih=>
  show(intsOf (List.map _ r)).bind _=_;rw [ih,Qt (fdiv_pow hn _)];rfl
theorem Ga(n:Int)(k:Nat):Fw ((List.range k).map fun p=>(n.fdiv (2 ^ (8*p))).fmod 256)=bO k n:=by
 delta Fw bO;rw [List.map_map];rfl
theorem xt(a:Int):0<=a.fmod 256/\a.fmod 256<256:=⟨Int.fmod_nonneg_of_pos _ (bR rfl),Int.fmod_lt_of_pos _ (bR rfl)⟩
theorem Gb(hn:0<=n)(k:Nat)(hk:k<=8)(m:MH):oS (.obj m.n) (m.new (.list ((List.range k).map fun p=> .int (Builtin.bitAnd (n.fdiv (2 ^ (8*p))) 255))))=some (.bytes (bO k n),m.new (.list ((List.range k).map fun p=> .int (Builtin.bitAnd (n.fdiv (2 ^ (8*p))) 255)))):=by
 have hr:∀x∈(List.range k).map (fun p=>(n.fdiv (2 ^ (8*p))).fmod 256),0<=x/\x<256:=fun x hx=>by
  rw [List.mem_map] at hx;obtain⟨p,_,rfl⟩:=hx;exact xt _
 have hl:((List.range k).map (fun p=>(n.fdiv (2 ^ (8*p))).fmod 256)).length<=100000:=by rw [eW,List.length_range];exact O39 hk
 show p9 _ ((m.new _).ob m.n)=_;rw [bc];show(intsOf _).bind _=_;rw [KY hn k];exact(if_pos ⟨hl,hr⟩).trans (by rw [Ga])
theorem eM{a b c:Nat}(h:(Nat.ble a b&&Nat.ble b c)=true):a<=b/\b<=c:=⟨i9 (Bool.and_eq_true_iff.mp h).1,i9 (Bool.and_eq_true_iff.mp h).2⟩
set_option compiler.extract_closed false in
open Lean in
protected def alts(w:String):MacroM (TSyntax `tactic):=do
 let f <- `(tactic|first|keq_rows|with_reducible assumption|decide|with_unfolding_all rfl|(apply Nat.le_of_ble_eq_true;with_unfolding_all rfl)|(first|with_reducible assumption|decide|omega)|keq_hits|lcg_sub|(focus (with_reducible show $(mkIdent `Ok) _ _);dsimp only))
 let t <- (w.splitOn " ").mapM fun s=>do
  let l:=s.splitOn ":"
  (l.getD 1 "").toList.foldlM (fun a c=> `(tacticSeq|($a);($(⟨f.raw[1][c.toNat-97][1]⟩):tacticSeq))) (<- `(tacticSeq|with_reducible apply $(mkIdent (l.headD "").toName):ident))
 `(tactic|first $[| $(t.toArray)]* |($(⟨f.raw[1][8][1]⟩):tacticSeq))
end
section
variable {a z:Option MV}{v:MV}{r:Option (MV×MH)}{c d:SM}{fr el:av}{m m' m1:MH}{k:Nat}{dv xs:List MV}{b:Bool}{co:av->MM MV}{ca:av->MM (List MV)}
theorem UY{r:av}(m:MH):SM.put 1 v (a::z::r) m=some (.next,a::some v::r,m):=rfl
theorem UZ{b:Option MV}{r:av}(m:MH):SM.put 2 v (a::b::z::r) m=some (.next,a::b::some v::r,m):=rfl
theorem SM.Gd(h:c fr m=some (.ret v,el,m1)):SM.seq c d fr m=some (.ret v,el,m1):=by unfold SM.seq;rw [h]
theorem SM.KZ(h:c fr m=some (.cont,el,m1)):SM.seq c d fr m=some (.cont,el,m1):=by unfold SM.seq;rw [h]
theorem SM.JO{α:Type}{c:MM α}{a:α}(h:c m=some (a,m1)):SM.act c fr m=some (.next,fr,m1):=by unfold SM.act;rw [h]
theorem SM.DQ(f:eG)(fr:av)(m:MH):SM.ret f fr m=some (f,fr,m):=rfl
theorem la{r:Nat}(u9:av)(hl:xs.length<=k/\k<=xs.length+dv.length)(hf:(xs++dv.drop (xs.length+dv.length-k)).map some++List.replicate r none=u9)(h:c u9 m=some (.ret v,fr,m')):
  dc k dv r c xs m=some (v,m'):=qG hl (hf▸h) (.inl rfl)
theorem sm{r:Nat}(u9:av)(hl:xs.length<=k/\k<=xs.length+dv.length)(hf:(xs++dv.drop (xs.length+dv.length-k)).map some++List.replicate r none=u9)(h:c u9 m=some (.next,fr,m')):
  dc k dv r c xs m=some (.none,m'):=qG hl (hf▸h) (.inr ⟨rfl,rfl⟩)
section
variable {α β:Type}{v x y:MV}{xs:List MV}{a:α}{fr el:av}{m m1 m2 m3:MH}
theorem U0{c:av->MM β}{f:β->MM α}{b:β}{r:Option (α×MH)}(h:c fr m=some (b,m1))(k:f b m1=r):oC c f fr m=r:=(vC h).trans k
theorem U1{c d:av->MM MV}{f:MV->MV->MM α}{r:Option (α×MH)}(h:c fr m=some (x,m1))(g:d fr m1=some (y,m2))(k:f x y m2=r):tj c d f fr m=r:=(qF h g).trans k
theorem Qu{c d:av->MM Bool}{r:Option (Bool×MH)}(h:c fr m=some (b,m1))(k:(bif b then d fr else MM.ret false) m1=r):Jh c d fr m=r:=(F_ h).trans k
theorem U2{c d:av->MM Bool}{r:Option (Bool×MH)}(h:c fr m=some (b,m1))(k:(bif b then MM.ret true else d fr) m1=r):PC c d fr m=r:=(JJ h).trans k
theorem U3{t:av->MM Bool}{c d:av->MM MV}(h:t fr m=some (b,m1))(k:(bif b then c fr else d fr) m1=r):PD t c d fr m=r:=(JK h).trans k
theorem U4{k:Str}{cands:List (Addr×(List MV->MM MV))}{F:List MV->MM MV}(h:co fr m=some (x,m1))(h2:qv k cands x m1=some (F,m2))(h3:ca fr m2=some (xs,m3))(q:F (x::xs) m3=r):MA k cands co ca fr m=r:=(JL h h2 h3).trans q
theorem U5{P:MH->MV->Bool}{f:List MV->MM MV}(h:co fr m=some (x,m1))(h2:ye P x m1=some ((),m2))(h3:ca fr m2=some (xs,m3))(q:f (x::xs) m3=r):Qi P f co ca fr m=r:=(JM h h2 h3).trans q
theorem U6{cv cl ch:av->MM MV}(h:cv fr m=some (v,m1))(h2:cl fr m1=some (x,m2))(h3:ch fr m2=some (y,m3))(q:tY v x y m3=r):M8 cv cl ch fr m=r:=(JN h h2 h3).trans q
theorem MM.Qv{c:MM α}{f:α->MM β}{r:Option (β×MH)}(h:c m=some (a,m1))(k:f a m1=r):MM.bind c f m=r:=(MM.eH h).trans k
theorem SM.U7{c:av->MM MV}{k:MV->SM}{r:Option (eG×av×MH)}(h:c fr m=some (v,m1))(q:k v fr m1=r):SM.use c k fr m=r:=(SM.DO h).trans q
theorem SM.Qw{c:av->MM Bool}{a b:SM}{v:Bool}{r:Option (eG×av×MH)}(h:c fr m=some (v,m1))(q:(bif v then a fr m1 else b fr m1)=r):SM.test c a b fr m=r:=(SM.FW h).trans q
theorem SM.U8{r:Option (eG×av×MH)}(h:c fr m=some (.next,el,m1))(q:d el m1=r):SM.seq c d fr m=r:=(SM.JH h).trans q
theorem U9{c:MV->MM MV}(h:c x m=r):se c [x] m=r:=h
theorem U_{c:MV->MV->MM MV}(h:c x y m=r):yd c [x,y] m=r:=h
end
end
local macro_rules | `(tactic|lcg_sub)=>do `(tactic|first|with_reducible assumption| $(<- Mine.alts "UW Iw:d rB_eq UX adW rN_f DQ SM.DQ U0:hh U1:hhh Iy:hh Qu:hh U2:hh U3:hh U4:hhhh U5:hhhh U6:hhhh UY UZ MM.Qv:hh SM.U7:hh SM.Qw:hh SM.U8:hh SM.Gd:h SM.JO:h U9:h U_:h gG KX FX"):tactic|(dsimp only [cond_true,cond_false] <;> lcg_sub))
section
variable {a z:Option MV}{v:MV}{r:Option (MV×MH)}{c d:SM}{fr el:av}{m m' m1:MH}{k:Nat}{dv xs:List MV}{b:Bool}{co:av->MM MV}{ca:av->MM (List MV)}
theorem hU{n:Int}(h0:0<=n)(h1:n<256 ^ k)(hk:k<=8)(m:MH):∃m',gO.1 [.int n,.int k] m=some (.bytes (bO k n),m')/\Ext m m':=by
 have hp:Js (.int 256) (.int k) m=some (.int (256 ^ k),m):=by rw [FY ⟨Int.natCast_nonneg _,by exact Wv hk,by decide⟩,l7]
 have hN:kX (fun a b=>decide (a<b)) (.int n) (.int (256 ^ k)) m=some (true,m):=by rw [gG,decide_eq_true h1]
 have hM:kX (fun a b=>decide (a<=b)) (.int 0) (.int n) m=some (true,m):=by rw [gG,decide_eq_true h0]
 have hB:=Gb h0 k hk m;dsimp only [gO];generalize hC:jf _ _ _ _ _ _=C;have hc:C [some (.int n),some (.int k)] m=some (.obj m.n,m.new (.list ((List.range k).map fun p=> .int (Builtin.bitAnd (n.fdiv (2 ^ (8*p))) 255)))):=by
  rw [<- hC];have hr:yC [.int k] m=some (.oz 0 k,m):=rfl;refine kG (n:=k) (src:=srcOf (.oz 0 k)) (m1:=m) (fun fr=>∃o,fr= [o,some (.int n)]) (by lcg_sub) (vD (by exact Ww hk)) (by exact lk hk) ⟨_,rfl⟩ (fun p hp=> ?_);refine⟨.int p,rfl, ?_⟩;rintro fr ⟨o,rfl⟩;have h1:BU (.int 8) (.int p) m=some (.int (8*p),m):=vB (.inl (bR rfl));have h2:MZ (.int n) (.int (8*p)) m=some (.int (n.fdiv (2 ^ (8*p))),m):=by
   rw [Nz (by exact Wh)]
   congr 4
  have h3:=Ny (n.fdiv (2 ^ (8*p))) 255 m;exact⟨[some (.int p),some (.int n)],rfl,⟨_,rfl⟩,rfl,by lcg_sub⟩
 clear hC;exact⟨_,la [some (.int n),some (.int k)] (eM rfl) rfl (by lcg_sub),Ext.new _ _⟩
end
section
noncomputable def Ge(b:List UInt8):List Int:=(List.range b.length).map fun k=>((b.getD k 0).toNat:Int)*2 ^ (8*k)
noncomputable def numOf(b:List UInt8):Int:=(Ge b).sum
theorem Iz(b:List UInt8)(ks:List Nat):intsOf (ks.map fun k=>MV.int (((b.getD k 0).toNat:Int)*2 ^ (8*k)))=some (ks.map fun k=>((b.getD k 0).toNat:Int)*2 ^ (8*k)):=by
 induction ks with
 |nil=>rfl
 |cons p r ih=>exact(aV (f:=fun ns=>some (_::ns)) ih)
theorem NB(b:List UInt8):∀x∈Ge b,0<=x:=fun x hx=>by
 unfold Ge at hx;rw [List.mem_map] at hx;obtain⟨k,_,rfl⟩:=hx;exact Int.mul_nonneg (Int.natCast_nonneg _) (Int.le_of_lt (Int.pow_pos (by decide)))
theorem iF{b:List UInt8}(hk:b.length<=8)(hz:numOf b<2 ^ 62)(m:MH):∃m',gN.1 [.bytes b] m=some (.int (numOf b),m')/\Ext m m':=by
 dsimp only [gN];generalize hC:jf _ _ _ _ _ _=C;have hc:C [some (.bytes b)] m=some (.obj m.n,m.new (.list ((List.range b.length).map fun k=>MV.int (((b.getD k 0).toNat:Int)*2 ^ (8*k))))):=by
  rw [<- hC];have he:enumSrc (.bytes b) m=some (⟨fun ψ=>some b.length,fun k ψ=>b[k]?.map fun c=> .tup [.int (k:Int),.int (c.toNat:Int)]⟩,m):=rfl;refine kG (n:=b.length) (m1:=m) (fun fr=>∃o1 o2,fr= [o1,o2]) (by lcg_sub) rfl (by exact lk hk) ⟨_,_,rfl⟩ (fun p hp=> ?_);have hb:b[p]? =some (b.getD p 0):=by rw [pS,iP hp];rfl
  refine⟨.tup [.int (p:Int),.int ((b.getD p 0).toNat:Int)],by show Option.map _ (b[p]?)=_;rw [hb];rfl, ?_⟩;rintro fr ⟨o1,o2,rfl⟩;have h1:BU (.int 8) (.int p) m=some (.int (8*p),m):=vB (.inl (by decide));have j_:(b.getD p 0).toNat<256:=(b.getD p 0).toNat_lt;have h2:MY (.int ((b.getD p 0).toNat:Int)) (.int (8*p)) m=some (.int (((b.getD p 0).toNat:Int)*2 ^ (8*p)),m):=by
   rw [NA ⟨by exact Wh,by exact Wy hk hp,by exact Wz j_⟩]
   congr 4
  exact⟨[some (.int p),some (.int ((b.getD p 0).toNat:Int))],rfl,⟨_,_,rfl⟩,rfl,by lcg_sub⟩
 clear hC;have hS:Jv (.obj m.n) (m.new (.list ((List.range b.length).map fun k=>MV.int (((b.getD k 0).toNat:Int)*2 ^ (8*k)))))=some (.int (numOf b),m.new (.list ((List.range b.length).map fun k=>MV.int (((b.getD k 0).toNat:Int)*2 ^ (8*k))))):=by
  exact(cC (bc _ _)).trans ((aV (Iz b _)).trans (if_pos ⟨NB b,hz⟩))
 exact⟨_,la [some (.bytes b)] (eM rfl) rfl (by lcg_sub),Ext.new _ _⟩
end
section
variable {n:Int}{k:Nat}
theorem aw(n:Int)(k:Nat):(bO k n).length=k:=by unfold bO;simp
theorem IA{p:Nat}(h:p<k):(((bO k n).getD p 0).toNat:Int)=(n.fdiv (2 ^ (8*p))).fmod 256:=by
 unfold bO;rw [pS,i_,List.getElem?_range h];obtain⟨h1,h2⟩:=xt (n.fdiv (2 ^ (8*p)));simp only [Option.map_some,Option.getD_some];obtain⟨x,hx⟩:∃x:Nat,(n.fdiv (2 ^ (8*p))).fmod 256=x:=⟨((n.fdiv (2 ^ (8*p))).fmod 256).toNat,by exact Pj h1⟩;rw [hx] at h1 h2 ⊢;rw [l7];have:(x.toUInt8).toNat=x:=by
  have hx2:x<256:=by exact ZG h2
  have:(UInt8.ofNat x).toNat=x % 256:=UInt8.toNat_ofNat';exact this.trans (Nat.mod_eq_of_lt hx2)
 rw [this]
theorem Cc(n:Nat):∀k,((List.range k).map fun p=>(((n:Int).fdiv (2 ^ (8*p))).fmod 256)*2 ^ (8*p)).sum=((n % 256 ^ k:Nat):Int)
 |0=>by simp [Nat.mod_one]
 |k+1=>by
  rw [List.range_succ,ja,List.sum_append,Cc n k];simp only [List.map_cons,List.map_nil,List.sum_cons,List.sum_nil,Int.add_zero];have e1:((n:Int).fdiv (2 ^ (8*k))).fmod 256=((n/256 ^ k % 256:Nat):Int):=by
   have h2:(2:Int) ^ (8*k)=((256 ^ k:Nat):Int):=by rw [Int.pow_mul];push_cast;rfl
   rw [h2,Int.fdiv_eq_ediv_of_nonneg _ (Int.natCast_nonneg _),Int.fmod_eq_emod_of_nonneg _ (by decide)]
   push_cast;rfl
  have h2:(2:Int) ^ (8*k)=((256 ^ k:Nat):Int):=by rw [Int.pow_mul];push_cast;rfl
  rw [e1,h2,Nat.pow_succ,Nat.mod_mul]
  push_cast
  rw [Int.mul_comm ((n:Int)/256 ^ k % 256)]
theorem fy(h0:0<=n)(h1:n<256 ^ k):numOf (bO k n)=n:=by
 obtain⟨x,rfl⟩:∃x:Nat,n=x:=⟨n.toNat,by exact Pj h0⟩;have h:Ge (bO k x)=(List.range k).map fun p=>(((x:Int).fdiv (2 ^ (8*p))).fmod 256)*2 ^ (8*p):=by
  unfold Ge;rw [aw];refine List.map_congr_left fun p hp=> ?_;rw [IA (List.mem_range.mp hp)]
 unfold numOf;rw [h,Cc,Nat.mod_eq_of_lt (by exact_mod_cast h1)]
end
section
theorem ints_map(f:Nat->Int)(ks:List Nat):intsOf (ks.map fun k=>MV.int (f k))=some (ks.map f):=by
 induction ks with
 |nil=>rfl
 |cons p r ih=>exact(aV (f:=fun ns=>some (_::ns)) ih)
theorem Ag(f:Nat->Bool)(ks:List Nat):boolsOf (ks.map fun k=>MV.bool (f k))=some (ks.map f):=by
 induction ks with
 |nil=>rfl
 |cons p r ih=>exact(aV (f:=fun ns=>some (_::ns)) ih)
theorem range_getD{α β:Type}(l:List α)(d:α)(f:α->β):(List.range l.length).map (fun k=>f (l.getD k d))=l.map f:=by
 refine List.ext_getElem? fun i=> ?_;rw [i_,i_]
 by_cases h:i<l.length
 ·rw [List.getElem?_range h,iP h];simp [List.getD_eq_getElem?_getD,List.getElem?_eq_getElem h]
 ·rw [List.getElem?_eq_none (by simp;exact TO h),List.getElem?_eq_none (by exact TO h)];rfl
theorem vE{l:List Nat}(hx:∀c∈l,32<=c/\c<127)(hl:l.length<=100)(m:MH):∃m',my.1 [.str ⟨l.toArray⟩] m=some (.bytes (l.map fun c=>c.toUInt8),m')/\Ext m m':=by
 have yS:∀k,k<l.length->32<=l.getD k 0/\l.getD k 0<127:=fun k hk=>by
  rw [pS,iP hk];exact hx _ (List.getElem_mem hk)
 dsimp only [my];generalize hC:jf _ _ _ _ _ _=C;generalize hD:jf _ _ _ _ _ _=D;obtain⟨m1,yk⟩:∃m1,m1=m.new (.list ((List.range l.length).map fun k=>MV.int ((l.getD k 0:Nat):Int))):=⟨_,rfl⟩;have a1:m1.ob m.n= .list ((List.range l.length).map fun k=>MV.int ((l.getD k 0:Nat):Int)):=by rw [yk];exact bc _ _
 have n1:m1.n=m.n+1:=by rw [yk];rfl
 have hc:C [some (.str ⟨l.toArray⟩),none] m=some (.obj m.n,m1):=by
  rw [<- hC,yk];have hlen:(srcOf (.str ⟨l.toArray⟩)).len m=some l.length:=by
   refine(if_pos ?_).trans (congrArg some (by simp))
   ·rw [Array.all_eq_true'];intro c hc;have:=hx c (by simpa using hc);simp;exact ab0 this
  refine kG (n:=l.length) (m1:=m) (fun fr=>∃o,fr= [o]) (by lcg_sub) hlen (by exact lk hl) ⟨_,rfl⟩ (fun p hp=> ?_);refine⟨.str ⟨#[l.getD p 0]⟩, ?_, ?_⟩
  ·show Option.map _ _=_;rw [List.getElem?_toArray,iP hp,pS,iP hp];rfl
  rintro fr ⟨o,rfl⟩;have h1:Nc (.str ⟨#[l.getD p 0]⟩) m=some (.int ((l.getD p 0:Nat):Int),m):=rfl;exact⟨[some (.str ⟨#[l.getD p 0]⟩)],rfl,⟨_,rfl⟩,rfl,by lcg_sub⟩
 clear hC;obtain⟨m2,rn⟩:∃m2,m2=m1.new (.list ((List.range l.length).map fun k=>MV.bool true)):=⟨_,rfl⟩;have a2:m2.ob m1.n= .list ((List.range l.length).map fun k=>MV.bool true):=by rw [rn];exact bc _ _
 have a3:m2.ob m.n= .list ((List.range l.length).map fun k=>MV.int ((l.getD k 0:Nat):Int)):=by rw [rn,cU (by rw [n1];exact Cv)];exact a1
 have hd:D [some (.str ⟨l.toArray⟩),some (.obj m.n)] m1=some (.obj m1.n,m2):=by
  rw [<- hD,rn];have hlen:(srcOf (.obj m.n)).len m1=some l.length:=by rw [y_ a1];simp
  refine kG (n:=l.length) (m1:=m1) (fun fr=>∃o,fr= [o]) (by lcg_sub) hlen (by exact lk hl) ⟨_,rfl⟩ (fun p hp=> ?_);refine⟨.int ((l.getD p 0:Nat):Int), ?_, ?_⟩
  ·rw [sR a1];rw [i_,List.getElem?_range hp];rfl
  rintro fr ⟨o,rfl⟩;obtain⟨q1,q2⟩:=yS p hp;have h1:kX (fun a b=>decide (a<=b)) (.int 32) (.int ((l.getD p 0:Nat):Int)) m1=some (true,m1):=by rw [gG,decide_eq_true (by exact R0 q1)]
  have h2:kX (fun a b=>decide (a<b)) (.int ((l.getD p 0:Nat):Int)) (.int 127) m1=some (true,m1):=by rw [gG,decide_eq_true (by exact R1 q2)]
  exact⟨[some (.int ((l.getD p 0:Nat):Int))],rfl,⟨_,rfl⟩,rfl,by lcg_sub⟩
 clear hD;have hA:JC (.obj m1.n) m2=some (.bool true,m2):=by
  refine(cC a2).trans ((aV (Ag _ _)).trans ?_)
  congr 3
  rw [List.all_eq_true];intro b hb;rw [List.mem_map] at hb;obtain⟨_,_,rfl⟩:=hb
  rfl
 have hB:oS (.obj m.n) m2=some (.bytes (l.map fun c=>c.toUInt8),m2):=by
  show p9 m2 (m2.ob m.n)=_;rw [a3];refine(aV (ints_map _ _)).trans ?_;have hr:∀n∈(List.range l.length).map (fun k=>((l.getD k 0:Nat):Int)),0<=n/\n<256:=fun n hn=>by
   rw [List.mem_map] at hn;obtain⟨k,hk,rfl⟩:=hn;have:=yS k (List.mem_range.mp hk);exact ab1 this
  rw [if_pos ⟨by rw [eW,List.length_range];exact Wf hl,hr⟩]
  congr 3
  unfold Fw;rw [List.map_map];exact range_getD l 0 fun c=>c.toUInt8
 have hE:u0 (.bool true) m2=some (true,m2):=rfl;refine⟨m2,la [some (.str ⟨l.toArray⟩),none] (eM rfl) rfl (by lcg_sub), ?_⟩;rw [rn,yk];exact(Ext.new _ _).trans (Ext.new _ _)
end
section
structure fj (j:Nat) (m m':MH):Prop where
 n:m.n<=m'.n
 ob:∀i,i<m.n->i≠j->m'.ob i=m.ob i
structure dH (m:MH) (i j:Nat) (b:List UInt8):Prop where
 a:m.ob i= .inst 142
 r:m.ob (i+1)= .dO [("octets",.obj j)]
 o:m.ob j= .ba b
 l:i+1<m.n/\j<m.n
theorem oW{i j:Nat}{b:List UInt8}{n:Int}{k:Nat}{m:MH}(S:dH m i j b)(h0:0<=n)(h1:n<256 ^ k)(hk:k<=8)(hb:b.length<=5000):∃m',bJ.1 [.obj i,.int n,.int k] m=some (.none,m')/\fj j m m'/\m'.ob j= .ba (b++bO k n):=by
 obtain⟨m1,e1,x1⟩:=hU h0 h1 hk m;have hj1:m1.ob j= .ba b:=(x1.ob j S.l.2).trans S.o;have hG:u5 [142,192,526] "octets" (.obj i) m=some (.obj j,m):=by
  exact get_eq S.a S.r (bR rfl) rfl rfl
 have hK:ye JE (.obj j) m=some ((),m):=by
  exact JI S.o
 have hX:Io [.obj j,.bytes (bO k n)] m1=some (.none,m1.set j (.ba (b++bO k n))):=by
  exact(Ae hj1).trans (if_pos ⟨by rw [aw];exact ab2 hk hb,eD S.l.2 x1.n⟩)
 dsimp only [bJ];refine⟨m1.set j (.ba (b++bO k n)),sm [some (.obj i),some (.int n),some (.int k)] (eM rfl) rfl (by lcg_sub),⟨x1.n,fun t h1 h2=> ?_⟩,fK _ _ _⟩;rw [cc h2];exact x1.ob t h1
end
section
variable {i j:Nat}{m m':MH}{b:List UInt8}
theorem fj.of(x:Ext m m'):fj j m m':=⟨x.n,fun i h ψ=>x.ob i h⟩
theorem fj.trans{a b c:MH}(x:fj j a b)(y:fj j b c):fj j a c:=⟨jb x.n y.n,fun i h q=>(y.ob i (eD h x.n) q).trans (x.ob i h q)⟩
theorem dH.ne(S:dH m i j b):i≠j/\i+1≠j:=by
 refine⟨fun q=> ?_,fun q=> ?_⟩
 ·have:=S.a;rw [q,S.o] at this;cases this
 ·have:=S.r;rw [q,S.o] at this;cases this
theorem dH.keep{b':List UInt8}(S:dH m i j b)(x:fj j m m')(o:m'.ob j= .ba b'):dH m' i j b':=
 ⟨(x.ob _ (by have:=S.l;exact Tr this) S.ne.1).trans S.a,(x.ob _ S.l.1 S.ne.2).trans S.r,o,⟨eD S.l.1 x.n,eD S.l.2 x.n⟩⟩
section
variable {i j:Nat}{b:List UInt8}{m:MH}
theorem dH.get(S:dH m i j b):u5 [142,192,526] "octets" (.obj i) m=some (.obj j,m):=by
 exact get_eq S.a S.r (bR rfl) rfl rfl
theorem dH.ye(S:dH m i j b):Mine.ye JE (.obj j) m=some ((),m):=by
 exact JI S.o
theorem dH.ext(S:dH m i j b){x:List UInt8}(h:b.length+x.length<=100000):Io [.obj j,.bytes x] m=some (.none,m.set j (.ba (b++x))):=by
 exact(Ae S.o).trans (if_pos ⟨h,S.l.2⟩)
theorem dH.xu(S:dH m i j b){F:List MV->MM MV}{k:Str}(hk:("octets":Str)≠k):qv k [(142,F)] (.obj i) m=some (F,m):=by
 have:lx k [("octets",MV.obj j)]=none:=by
  exact if_neg hk
 exact vA S.a S.r this
theorem yl{l:List Nat}(S:dH m i j b)(hx:∀c∈l,32<=c/\c<127)(hl:l.length<=100)(hb:b.length<=4000):
  ∃m',pE.1 [.obj i,.str ⟨l.toArray⟩] m=some (.none,m')/\fj j m m'/\m'.ob j= .ba (b++bO 1 l.length++l.map fun c=>c.toUInt8):=by
 obtain⟨m1,e1,x1⟩:=vE hx hl m;have S1:=S.keep (.of x1) ((x1.ob j S.l.2).trans S.o);obtain⟨m2,e2,x2,o2⟩:=oW (n:=(l.length:Int)) (k:=1) S1 (by exact O2) (by exact RL hl) (bR rfl) (by exact lk hb);have S2:=S1.keep x2 o2;have e2':bJ.1 [.obj i,.int l.length,.int 1] m1=some (.none,m2):=e2;have hL:vq [.bytes (l.map fun c=>c.toUInt8)] m1=some (.int l.length,m1):=by
  exact(if_pos (by rw [eW];exact Wf hl)).trans (by rw [eW])
 have hD:=S1.xu (F:=bJ.1) (k:="number") (bR rfl);have hG:=S2.get;have hK:=S2.ye;have hX:=S2.ext (x:=l.map fun c=>c.toUInt8) (by rw [ip,aw,eW];exact ZM hl hb);dsimp only [pE];refine⟨m2.set j (.ba (b++bO 1 l.length++l.map fun c=>c.toUInt8)),sm [some (.obj i),some (.str ⟨l.toArray⟩),none] (eM rfl) rfl (by lcg_sub), ?_,fK _ _ _⟩;exact(fj.of x1).trans (x2.trans ⟨dT _,fun t ψ q=>cc q⟩)
theorem wJ(S:dH m i j b)(hb:b.length<=100000):nV.1 [.obj i] m=some (.bytes b,m):=by
 have hG:=S.get;have hB:oS (.obj j) m=some (.bytes b,m):=by
  show p9 m (m.ob j)=_;rw [S.o];exact if_pos hb
 dsimp only [nV];exact la [some (.obj i)] (eM rfl) rfl (by lcg_sub)
end
end
section
structure fv (m:MH) (i:Nat) (b:List UInt8) (k:Nat):Prop where
 a:m.ob i= .inst 192
 r:m.ob (i+1)= .dO [("octets",.bytes b),("at",.int (k:Int))]
 l:i+1<m.n
section
variable {i k:Nat}{b:List UInt8}{m:MH}
theorem fv.octets(S:fv m i b k):u5 [142,192,526] "octets" (.obj i) m=some (.bytes b,m):=by
 exact get_eq S.a S.r (by decide) rfl rfl
theorem fv.at(S:fv m i b k):u5 [192] "at" (.obj i) m=some (.int (k:Int),m):=by
 exact get_eq S.a S.r (by decide) rfl rfl
theorem fv.xu(S:fv m i b k){F:List MV->MM MV}{x:Str}(h1:("octets":Str)≠x)(h2:("at":Str)≠x):qv x [(192,F)] (.obj i) m=some (F,m):=by
 have:lx x [("octets",MV.bytes b),("at",MV.int (k:Int))]=none:=(if_neg h1).trans (if_neg h2);exact vA S.a S.r this
theorem vF(S:fv m i b k)(hb:b.length<=100000):j7.1 [.obj i] m=some (.int ((b.length:Int)-k),m):=by
 have h1:=S.octets;have h2:=S.at;have h3:vq [.bytes b] m=some (.int b.length,m):=if_pos hb;dsimp only [j7];exact la [some (.obj i)] (eM rfl) rfl (by lcg_sub)
theorem oX(S:fv m i b k){n:Nat}(hn:k+n<=b.length)(hb:b.length<=1000):
  ∃m',gv.1 [.obj i,.int (n:Int)] m=some (.bytes ((b.drop k).take n),m')/\fj (i+1) m m'/\fv m' i b (k+n):=by
 have h1:=S.octets;have h2:=S.at;have h3:=S.xu (F:=j7.1) (x:="left") (by decide) (by decide);have h4:=vF S (by exact lk hb);have h5:kX (fun a b=>decide (a>b)) (.int (n:Int)) (.int ((b.length:Int)-k)) m=some (false,m):=by rw [gG,decide_eq_false (by exact Z8 hn)]
 have h6:tY (.bytes b) (.int (k:Int)) (.int ((k:Int)+n)) m=some (.bytes ((b.drop k).take n),m):=by
  have:c8 b (some (k:Int)) (some ((k:Int)+n))=(b.drop k).take n:=by
   have:=sU b (a:=k) (c:=k+n) (by exact Z9);rw [show k+n-k=n by exact Z_] at this;exact this
  exact(if_pos (by exact lk hb)).trans (by rw [this])
 have h7:oS (.bytes ((b.drop k).take n)) m=some (.bytes ((b.drop k).take n),m):=rfl;have h8:pW [192] "at" (.obj i) (.int ((k:Int)+n)) m=some ((),m.set (i+1) (.dO [("octets",.bytes b),("at",.int ((k:Int)+n))])):=by
  exact k_ S.a S.r (by decide) (by have:=S.l;exact O3 this) (i9 rfl)
 dsimp only [gv];refine⟨m.set (i+1) (.dO [("octets",.bytes b),("at",.int ((k:Int)+n))]),la [some (.obj i),some (.int (n:Int)),none] (eM rfl) rfl (by lcg_sub),⟨dT _,fun t ψ q=>cc q⟩,⟨?_, ?_,S.l⟩⟩
 ·exact(cc (by exact O8)).trans S.a
 ·exact fK _ _ _
end
end
section
section
variable {i k:Nat}{b:List UInt8}{m:MH}
theorem fv.keep{m':MH}(S:fv m i b k)(x:Ext m m'):fv m' i b k:=
 ⟨(x.ob _ (by have:=S.l;exact O3 this)).trans S.a,(x.ob _ S.l).trans S.r,eD S.l x.n⟩
theorem mT(S:fv m i b k){n:Nat}(hn:k+n<=b.length)(hb:b.length<=1000)(h8:n<=8)(hz:numOf ((b.drop k).take n)<2 ^ 62):
  ∃m',bq.1 [.obj i,.int (n:Int)] m=some (.int (numOf ((b.drop k).take n)),m')/\fj (i+1) m m'/\fv m' i b (k+n):=by
 obtain⟨m1,e1,x1,S1⟩:=oX S hn hb;obtain⟨m2,e2,x2⟩:=iF (b:=(b.drop k).take n) (by rw [ie];exact abU h8) hz m1;have h3:=S.xu (F:=gv.1) (x:="take") (bR rfl) (bR rfl);dsimp only [bq];exact⟨m2,la [some (.obj i),some (.int (n:Int))] (eM rfl) rfl (by lcg_sub),x1.trans (.of x2),S1.keep x2⟩
end
end
section
variable {l:List Nat}
theorem strs_map(f:Nat->Str)(ks:List Nat):strsOf (ks.map fun k=>MV.str (f k))=some (ks.map f):=by
 induction ks with
 |nil=>rfl
 |cons p r ih=>exact(aV (f:=fun ns=>some (_::ns)) ih)
theorem NC{a b:Str}(h:a.cps.toList=b.cps.toList):a=b:=by
 obtain⟨x⟩:=a;obtain⟨y⟩:=b;simp only at h;rw [Array.toList_inj.mp h]
theorem xw:∀l:List Nat,Str.join ⟨#[]⟩ (l.map fun c=>(⟨#[c]⟩:Str))=⟨l.toArray⟩
 | []=>rfl
 | [c]=>rfl
 |c::d::r=>by
  have ih:=xw (d::r);show(⟨#[c]⟩:Str)++⟨#[]⟩++Str.join ⟨#[]⟩ ((d::r).map fun c=>(⟨#[c]⟩:Str))=_;rw [ih];apply NC;show((#[c]++ #[])++(d::r).toArray).toList=_;simp
theorem joinOk_signs(h:l.length<=100):JoinOk ⟨#[]⟩ (l.map fun c=>(⟨#[c]⟩:Str))=true:=by
 have key:∀(l:List Nat) (a:Nat),(l.map fun c=>(⟨#[c]⟩:Str)).foldl (fun x y=>x+y.length+(⟨#[]⟩:Str).length) a=a+l.length:=by
  intro l
  induction l with
  |nil=>intro a;rfl
  |cons c r ih=>
   intro a;rw [List.map_cons,List.foldl_cons,ih];exact abV
 unfold JoinOk;rw [List.foldl_toArray,key];have:Builtin.Str.tooLong (0+l.length)=false:=by
  unfold Builtin.Str.tooLong;rw [sizeLine_eq];exact decide_eq_false (by exact abW h)
 rw [this];rfl
theorem vG(hx:∀c∈l,32<=c/\c<127)(hl:l.length<=100)(m:MH):∃m',mC.1 [.bytes (l.map fun c=>c.toUInt8)] m=some (.str ⟨l.toArray⟩,m')/\Ext m m':=by
 have yS:∀k,k<l.length->32<=l.getD k 0/\l.getD k 0<127:=fun k hk=>by
  rw [pS,iP hk];exact hx _ (List.getElem_mem hk)
 have hit:∀(m:MH) p,p<l.length->(srcOf (.bytes (l.map fun c=>c.toUInt8))).item p m=some (.int ((l.getD p 0:Nat):Int)):=fun m p hp=>by
  have j_:=yS p hp;show Option.map _ _=_;rw [i_,iP hp];rw [pS,iP hp] at j_ ⊢;simp only [Option.map_some,Option.getD_some] at j_ ⊢;have h9:(UInt8.ofNat l[p]).toNat=l[p] % 256:=UInt8.toNat_ofNat';have:(l[p].toUInt8).toNat=l[p]:=h9.trans (Nat.mod_eq_of_lt (by exact abX hp j_ h9));rw [this]
 have hlen:∀m,(srcOf (.bytes (l.map fun c=>c.toUInt8))).len m=some l.length:=fun m=>congrArg some (eW ..);dsimp only [mC];generalize hD:jf _ _ _ _ _ _=D;generalize hC:jf _ _ _ _ _ _=C;obtain⟨m1,yk⟩:∃m1,m1=m.new (.list ((List.range l.length).map fun k=>MV.bool true)):=⟨_,rfl⟩;have a1:m1.ob m.n= .list ((List.range l.length).map fun k=>MV.bool true):=by rw [yk];exact bc _ _
 have hd:D [some (.bytes (l.map fun c=>c.toUInt8))] m=some (.obj m.n,m1):=by
  rw [<- hD,yk];refine kG (n:=l.length) (m1:=m) (fun fr=>∃o,fr= [o]) (by lcg_sub) (hlen m) (by exact lk hl) ⟨_,rfl⟩ (fun p hp=> ?_);refine⟨_,hit m p hp, ?_⟩;rintro fr ⟨o,rfl⟩;obtain⟨q1,q2⟩:=yS p hp;have h1:kX (fun a b=>decide (a<=b)) (.int 32) (.int ((l.getD p 0:Nat):Int)) m=some (true,m):=by rw [gG,decide_eq_true (by exact R0 q1)]
  have h2:kX (fun a b=>decide (a<b)) (.int ((l.getD p 0:Nat):Int)) (.int 127) m=some (true,m):=by rw [gG,decide_eq_true (by exact R1 q2)]
  exact⟨[some (.int ((l.getD p 0:Nat):Int))],rfl,⟨_,rfl⟩,rfl,by lcg_sub⟩
 clear hD;have hA:JC (.obj m.n) m1=some (.bool true,m1):=by
  refine(cC a1).trans ((aV (Ag _ _)).trans ?_)
  congr 3
  rw [List.all_eq_true];intro b hb;rw [List.mem_map] at hb;obtain⟨_,_,rfl⟩:=hb
  rfl
 have hE:u0 (.bool true) m1=some (true,m1):=rfl;obtain⟨m2,rn⟩:∃m2,m2=m1.new (.list ((List.range l.length).map fun k=>MV.str ⟨#[l.getD k 0]⟩)):=⟨_,rfl⟩;have a2:m2.ob m1.n= .list ((List.range l.length).map fun k=>MV.str ⟨#[l.getD k 0]⟩):=by rw [rn];exact bc _ _
 have hc:C [some (.bytes (l.map fun c=>c.toUInt8))] m1=some (.obj m1.n,m2):=by
  rw [<- hC,rn];refine kG (n:=l.length) (m1:=m1) (fun fr=>∃o,fr= [o]) (by lcg_sub) (hlen m1) (by exact lk hl) ⟨_,rfl⟩ (fun p hp=> ?_);refine⟨_,hit m1 p hp, ?_⟩;rintro fr ⟨o,rfl⟩;obtain⟨q1,q2⟩:=yS p hp;have h1:Sn (.int ((l.getD p 0:Nat):Int)) m1=some (.str ⟨#[l.getD p 0]⟩,m1):=by
   exact(if_pos ⟨by exact abY q1,by exact abZ q2⟩).trans (by rw [l7])
  exact⟨[some (.int ((l.getD p 0:Nat):Int))],rfl,⟨_,rfl⟩,rfl,by lcg_sub⟩
 clear hC;have hk:ye isStr (.str (Str.ofString "")) m1=some ((),m1):=rfl;have hJ:Np [.str (Str.ofString ""),.obj m1.n] m2=some (.str ⟨l.toArray⟩,m2):=by
  have e0:Str.ofString ""=⟨#[]⟩:=by decide
  rw [e0];show(if(⟨#[]⟩:Str)=⟨#[]⟩ then(m2.ob m1.n).gQ.bind _ else none)=_;refine(if_pos rfl).trans ?_;refine(cC a2).trans ?_;refine(aV (strs_map (fun k=>(⟨#[l.getD k 0]⟩:Str)) _)).trans ?_;rw [range_getD l 0 fun c=>(⟨#[c]⟩:Str)];refine(if_pos (joinOk_signs hl)).trans ?_;show some (MV.str (Builtin.Str.glued ⟨#[]⟩ _),m2)=_;rw [StrLaws.glued_eq_join,xw]
 refine⟨m2,la [some (.bytes (l.map fun c=>c.toUInt8))] (eM rfl) rfl (by lcg_sub), ?_⟩;rw [rn,yk];exact(Ext.new _ _).trans (Ext.new _ _)
end
section
section
variable {i k:Nat}{b:List UInt8}{m:MH}
theorem vH(S:fv m i b k){l:List Nat}{r:List UInt8}(hd:b.drop k=bO 1 l.length++(l.map fun c=>c.toUInt8)++r)(hx:∀c∈l,32<=c/\c<127)(hl:l.length<=100)(hb:b.length<=1000):
  ∃m',mE.1 [.obj i] m=some (.str ⟨l.toArray⟩,m')/\fj (i+1) m m'/\fv m' i b (k+1+l.length):=by
 have hlen:b.length-k=1+l.length+r.length:=by
  rw [<- List.length_drop,hd];simp [aw];exact aaq
 have hkb:k<=b.length:=by
  rcases Nat.lt_or_ge b.length k with h|h
  ·rw [List.drop_eq_nil_of_le (by exact TF h)] at hd;have:=congrArg List.length hd;simp [aw] at this;exact aar this
  ·exact h
 have t1:(b.drop k).take 1=bO 1 l.length:=by
  rw [hd,List.append_assoc,List.take_append_of_le_length (by rw [aw];exact Pb),qP (by rw [aw];exact Pb)]
 have t2:(b.drop (k+1)).take l.length=l.map fun c=>c.toUInt8:=by
  rw [<- List.drop_drop,hd,List.append_assoc,List.drop_append_of_le_length (by rw [aw];exact Pb),List.drop_of_length_le (by rw [aw];exact Pb),List.nil_append,
   List.take_append_of_le_length (by rw [eW];exact Ka),qP (by rw [eW];exact Ka)]
 have hn:numOf ((b.drop k).take 1)=l.length:=by rw [t1];exact fy (by exact O2) (by exact RL hl)
 obtain⟨m1,e1,x1,S1⟩:=mT S (n:=1) (by exact aas hlen hkb) hb (bR rfl) (by rw [hn];exact aat hl);rw [hn] at e1;obtain⟨m2,e2,x2,S2⟩:=oX S1 (n:=l.length) (by exact aau hlen hkb) hb;rw [t2] at e2;obtain⟨m3,e3,x3⟩:=vG hx hl m2;have h1:=S.xu (F:=gv.1) (x:="take") (bR rfl) (bR rfl);have h2:=S.xu (F:=bq.1) (x:="number") (bR rfl) (bR rfl);have e1':bq.1 [.obj i,.int 1] m=some (.int (l.length:Int),m1):=e1;dsimp only [mE];exact⟨m3,la [some (.obj i)] (eM rfl) rfl (by lcg_sub),(x1.trans x2).trans (.of x3),S2.keep x3⟩
end
end
section
theorem so{C:Addr}{ci:List MV->MM MV}{xs:List MV}{m m':MH}(h:ci (.obj m.n::xs) ((m.new (.inst C)).new (.dO []))=some (.none,m')):Jo C ci xs m=some (.obj m.n,m'):=by
 exact aV h
theorem IB(m:MH):∃m',FU.1 [] m=some (.obj m.n,m')/\Ext m m'/\dH m' m.n (m.n+2) []:=by
 obtain⟨m0,h0⟩:∃m0,m0=(m.new (.inst 142)).new (.dO []):=⟨_,rfl⟩;have n0:m0.n=m.n+2:=by rw [h0];rfl
 obtain⟨m1,h1⟩:∃m1,m1=m0.new (.ba []):=⟨_,rfl⟩;have hB:mBa [] m0=some (.obj m0.n,m1):=by rw [h1];rfl
 have a0:m1.ob m.n= .inst 142:=by
  rw [h1,cU (by exact Ey n0),h0,cU (by rw [et];exact Cv)];exact bc _ _
 have r0:m1.ob (m.n+1)= .dO []:=by
  rw [h1,cU (by exact Pf n0),h0];exact bc (m.new (.inst 142)) _
 have hS:pW [142,192,526] "octets" (.obj m.n) (.obj m0.n) m1=some ((),m1.set (m.n+1) (.dO [("octets",.obj m0.n)])):=by
  have hn:m1.n=m.n+3:=by rw [h1,et,n0]
  exact k_ a0 r0 (bR rfl) (by exact Zt hn) (i9 rfl)
 have key:pD.1 [.obj m.n] m0=some (.none,m1.set (m.n+1) (.dO [("octets",.obj m0.n)])):=by
  dsimp only [pD];exact sm [some (.obj m.n)] (eM rfl) rfl (by lcg_sub)
 refine⟨_,so (by rw [<- h0];exact key),⟨?_,fun t ht=> ?_⟩,⟨?_, ?_, ?_, ?_⟩⟩
 ·show m.n<=m1.n;rw [h1,et];exact Zu n0
 ·rw [cc (by exact O1 ht),h1,cU (by exact TA n0 ht),h0,cU (by rw [et];exact J8 ht),cU ht]
 ·rw [cc (by exact O8)];exact a0
 ·rw [fK,n0]
 ·rw [cc (by exact Ez), <- n0,h1];exact bc _ _
 ·show m.n+1<m1.n/\m.n+2<m1.n;rw [h1,et];exact Zv n0
end
section
theorem set_set(m:MH)(i:Nat)(a b:MO):(m.set i a).set i b=m.set i b:=by
 unfold MH.set
 congr 1
 funext j
 by_cases h:j=i <;> simp [h]
theorem DR(b:List UInt8)(m:MH):∃m',Aa.1 [.bytes b] m=some (.obj m.n,m')/\Ext m m'/\fv m' m.n b 0:=by
 obtain⟨m0,h0⟩:∃m0,m0=(m.new (.inst 192)).new (.dO []):=⟨_,rfl⟩;have n0:m0.n=m.n+2:=by rw [h0];rfl
 have a0:m0.ob m.n= .inst 192:=by rw [h0,cU (by rw [et];exact Cv)];exact bc _ _
 have r0:m0.ob (m.n+1)= .dO []:=by rw [h0];exact bc (m.new (.inst 192)) _
 have s1:=k_ (cs:= [142,192,526]) (k:="octets") (x:= .bytes b) a0 r0 (by decide) (by exact Ey n0) (by decide);obtain⟨m1,h1⟩:∃m1,m1=m0.set (m.n+1) (.dO [("octets",.bytes b)]):=⟨_,rfl⟩;have e1:pW [142,192,526] "octets" (.obj m.n) (.bytes b) m0=some ((),m1):=by rw [h1];exact s1
 have a1:m1.ob m.n= .inst 192:=by rw [h1,cc (by exact O8)];exact a0
 have r1:m1.ob (m.n+1)= .dO [("octets",.bytes b)]:=by rw [h1];exact fK _ _ _
 have s2:=k_ (cs:= [192]) (k:="at") (x:= .int 0) a1 r1 (by simp) (by rw [h1,sk];exact Ey n0) (by simp);obtain⟨m2,h2⟩:∃m2,m2=m1.set (m.n+1) (.dO [("octets",.bytes b),("at",.int 0)]):=⟨_,rfl⟩;have e2:pW [192] "at" (.obj m.n) (.int 0) m1=some ((),m2):=by rw [h2];exact s2
 have key:mD.1 [.obj m.n,.bytes b] m0=some (.none,m2):=by
  dsimp only [mD];exact sm [some (.obj m.n),some (.bytes b),some (.int 0)] (eM rfl) rfl (by lcg_sub)
 have nn:m2.n=m.n+2:=by rw [h2,sk,h1,sk,n0]
 refine⟨m2,so (by rw [<- h0];exact key),⟨by exact Xm nn,fun t ht=> ?_⟩,⟨?_, ?_,by exact Pf nn⟩⟩
 ·rw [h2,cc (by exact O1 ht),h1,cc (by exact O1 ht),h0,cU (by rw [et];exact J8 ht),cU ht]
 ·rw [h2,cc (by exact O8)];exact a1
 ·rw [h2];exact fK _ _ _
end
section
structure vI (m:MH) (i j:Nat) (s:Str) (g p:Int) (xs:List MV):Prop where
 a:m.ob i= .inst 227
 r:m.ob (i+1)= .dO [("sort",.str s),("guid",.int g),("children",.obj j),("parity",.int p)]
 c:m.ob j= .list xs
 l:i+1<m.n/\j<m.n
theorem rf{s:Str}{g p:Int}{ch:MV}{xs:List MV}{i:Nat}{m0:MH}(hL:∀fs,DA ch (m0.set (i+1) fs)=some (.obj m0.n,(m0.set (i+1) fs).new (.list xs)))(a0:m0.ob i= .inst 227)(r0:m0.ob (i+1)= .dO [])(hi:i+1<m0.n):
  ∃m',jS.1 [.obj i,.str s,.int g,ch,.int p] m0=some (.none,m')/\m'.n=m0.n+1/\(∀t,t<m0.n->t≠i+1->m'.ob t=m0.ob t)/\vI m' i m0.n s g p xs:=by
 obtain⟨m1,h1⟩:∃m1,m1=m0.set (i+1) (.dO [("sort",.str s)]):=⟨_,rfl⟩;have e1:pW [227] "sort" (.obj i) (.str s) m0=some ((),m1):=by rw [h1];exact k_ a0 r0 (by simp) (by exact O3 hi) (by simp)
 have a1:m1.ob i= .inst 227:=by rw [h1,cc (by exact O8)];exact a0
 have r1:m1.ob (i+1)= .dO [("sort",.str s)]:=by rw [h1];exact fK _ _ _
 obtain⟨m2,h2⟩:∃m2,m2=m0.set (i+1) (.dO [("sort",.str s),("guid",.int g)]):=⟨_,rfl⟩;have e2:pW [227,254] "guid" (.obj i) (.int g) m1=some ((),m2):=by
  rw [h2, <- set_set m0 (i+1) (.dO [("sort",.str s)]), <- h1];exact k_ a1 r1 (by simp) (by rw [h1,sk];exact O3 hi) (by simp)
 obtain⟨m3,h3⟩:∃m3,m3=m2.new (.list xs):=⟨_,rfl⟩;have e3:DA ch m2=some (.obj m0.n,m3):=by rw [h3,h2];exact hL _
 have n2:m2.n=m0.n:=by rw [h2,sk]
 have a3:m3.ob i= .inst 227:=by rw [h3,cU (by exact abc hi n2),h2,cc (by exact O8)];exact a0
 have r3:m3.ob (i+1)= .dO [("sort",.str s),("guid",.int g)]:=by rw [h3,cU (by exact abd hi n2),h2];exact fK _ _ _
 have n3:m3.n=m0.n+1:=by rw [h3,et,n2]
 obtain⟨m4,h4⟩:∃m4,m4=m3.set (i+1) (.dO [("sort",.str s),("guid",.int g),("children",.obj m0.n)]):=⟨_,rfl⟩;have e4:pW [227] "children" (.obj i) (.obj m0.n) m3=some ((),m4):=by rw [h4];exact k_ a3 r3 (by simp) (by exact RT hi n3) (by simp)
 have a4:m4.ob i= .inst 227:=by rw [h4,cc (by exact O8)];exact a3
 have r4:m4.ob (i+1)= .dO [("sort",.str s),("guid",.int g),("children",.obj m0.n)]:=by rw [h4];exact fK _ _ _
 obtain⟨m5,h5⟩:∃m5,m5=m4.set (i+1) (.dO [("sort",.str s),("guid",.int g),("children",.obj m0.n),("parity",.int p)]):=⟨_,rfl⟩;have e5:pW [227] "parity" (.obj i) (.int p) m4=some ((),m5):=by rw [h5];exact k_ a4 r4 (by simp) (by rw [h4,sk];exact RT hi n3) (by simp)
 have n5:m5.n=m0.n+1:=by rw [h5,sk,h4,sk,n3]
 refine⟨m5, ?_,n5,fun t ht iZ=> ?_,⟨?_, ?_, ?_,by exact abe hi n5⟩⟩
 ·dsimp only [jS];exact sm [some (.obj i),some (.str s),some (.int g),some ch,some (.int p)] (eM rfl) rfl (by lcg_sub)
 ·rw [h5,cc iZ,h4,cc iZ,h3,cU (by exact RQ n2 ht),h2,cc iZ]
 ·rw [h5,cc (by exact O8)];exact a4
 ·rw [h5];exact fK _ _ _
 ·rw [h5,cc (by exact RU hi),h4,cc (by exact RU hi),h3, <- n2];exact bc _ _
end
section
variable {s:Str}{g:Int}{m:MH}
theorem qH{p:Int}{c:Nat}{xs:List MV}(hc:m.ob c= .list xs)(fY:c<m.n)(hz:xs.length<=100000):
  ∃m',nW.1 [.str s,.int g,.obj c,.int p] m=some (.obj m.n,m')/\Ext m m'/\vI m' m.n (m.n+2) s g p xs:=by
 obtain⟨m0,h0⟩:∃m0,m0=(m.new (.inst 227)).new (.dO []):=⟨_,rfl⟩;have n0:m0.n=m.n+2:=by rw [h0];rfl
 have a0:m0.ob m.n= .inst 227:=by rw [h0,cU (by rw [et];exact Cv)];exact bc _ _
 have r0:m0.ob (m.n+1)= .dO []:=by rw [h0];exact bc (m.new (.inst 227)) _
 have o0:∀t,t<m.n->m0.ob t=m.ob t:=fun t ht=>by rw [h0,cU (by rw [et];exact J8 ht),cU ht]
 obtain⟨m1,e1,n1,k1,S1⟩:=rf (s:=s) (g:=g) (p:=p) (ch:= .obj c) (xs:=xs) (fun fs=>by
  exact(cC ((cc (by exact O1 fY)).trans ((o0 c fY).trans hc))).trans (if_pos hz)) a0 r0 (by exact Pf n0)
 refine⟨m1,so (by rw [<- h0];exact e1),⟨by exact Rw n0 n1,fun t ht=> ?_⟩,n0▸S1⟩;rw [k1 t (by exact TA n0 ht) (by exact O1 ht),o0 t ht]
theorem Gg:∃m',nW.1 [.str s,.int g] m=some (.obj m.n,m')/\Ext m m'/\vI m' m.n (m.n+2) s g 0 []:=by
 obtain⟨m0,h0⟩:∃m0,m0=(m.new (.inst 227)).new (.dO []):=⟨_,rfl⟩;have n0:m0.n=m.n+2:=by rw [h0];rfl
 have a0:m0.ob m.n= .inst 227:=by rw [h0,cU (by rw [et];exact Cv)];exact bc _ _
 have r0:m0.ob (m.n+1)= .dO []:=by rw [h0];exact bc (m.new (.inst 227)) _
 have o0:∀t,t<m.n->m0.ob t=m.ob t:=fun t ht=>by rw [h0,cU (by rw [et];exact J8 ht),cU ht]
 obtain⟨m1,e1,n1,k1,S1⟩:=rf (s:=s) (g:=g) (p:=0) (ch:= .tup []) (xs:= []) (fun fs=>by
  rfl) a0 r0 (by exact Pf n0)
 have e2:jS.1 [.obj m.n,.str s,.int g] m0=jS.1 [.obj m.n,.str s,.int g,.tup [],.int 0] m0:=by
  rfl
 refine⟨m1,so (by rw [<- h0];exact e2.trans e1),⟨by exact Rw n0 n1,fun t ht=> ?_⟩,n0▸S1⟩;rw [k1 t (by exact TA n0 ht) (by exact O1 ht),o0 t ht]
end
section
def Ok{α:Type}(r:Option (α×MH))(Q:α->MH->Prop):Prop:=∃a m',r=some (a,m')/\Q a m'
def bL(r:Option (eG×av×MH))(Q:eG->av->MH->Prop):Prop:=∃f fr m',r=some (f,fr,m')/\Q f fr m'
section
variable {α β:Type}{Q Q':α->MH->Prop}{m m1 m':MH}{fr el:av}
theorem Ok.of{r:Option (α×MH)}{a:α}(h:r=some (a,m'))(q:Q a m'):Ok r Q:=⟨a,m',h,q⟩
theorem Ok.ex{r:Option (α×MH)}{v:α}{P:MH->Prop}(h:∃m',r=some (v,m')/\P m')(q:∀m',P m'->Q v m'):Ok r Q:=⟨v,h.imp fun m'=>And.imp_right (q m')⟩
theorem Ok.mono{r:Option (α×MH)}(h:Ok r Q)(q:∀a m',Q a m'->Q' a m'):Ok r Q':=h.imp fun a=>Exists.imp fun m'=>And.imp_right (q a m')
theorem Ok.k2{r:Option (α×MH)}{P1 P2:α->MH->Prop}(h:Ok r fun v m=>P1 v m/\P2 v m)(q:∀v m,P1 v m->P2 v m->Q v m):Ok r Q:=h.mono fun v m p=>q v m p.1 p.2
theorem Ok.q1{r:Option (α×MH)}{a:α}{P1:MH->Prop}(h:Ok r fun v m=>v=a/\P1 m)(q:∀m,P1 m->Q a m):Ok r Q:=h.mono fun v m p=>p.1▸q m p.2
theorem Ok.q2{r:Option (α×MH)}{a:α}{P1 P2:MH->Prop}(h:Ok r fun v m=>v=a/\P1 m/\P2 m)(q:∀m,P1 m->P2 m->Q a m):Ok r Q:=h.mono fun v m p=>p.1▸q m p.2.1 p.2.2
theorem Ok.bind{Q:β->MH->Prop}{c:MM α}{f:α->MM β}(h:Ok (c m) fun a m1=>Ok (f a m1) Q):Ok (MM.bind c f m) Q:=by
 obtain⟨a,m1,e,b,m2,e2,q⟩:=h;exact⟨b,m2,(MM.eH e).trans e2,q⟩
theorem Ok.ret{a:α}(q:Q a m):Ok (MM.ret a m) Q:=⟨a,m,rfl,q⟩
theorem Ok.bt{x y:MM α}(h:Ok (x m) Q):Ok ((cond true x y) m) Q:=h
theorem Ok.bf{x y:MM α}(h:Ok (y m) Q):Ok ((cond false x y) m) Q:=h
theorem bL.bt{x y:Option (eG×av×MH)}{Q:eG->av->MH->Prop}(h:bL x Q):bL (cond true x y) Q:=h
theorem bL.bf{x y:Option (eG×av×MH)}{Q:eG->av->MH->Prop}(h:bL y Q):bL (cond false x y) Q:=h
end
def Pu{α:Type}(c:av->MM α)(fr:av)(m:MH)(v:α):Prop:=c fr m=some (v,m)
abbrev JP{α β:Type}(f:β->MM α)(Q:α->MH->Prop)(x:β)(m:MH):Prop:=Ok (f x m) Q
abbrev ad0{α:Type}(d:av->MM MV)(f:MV->MV->MM α)(fr:av)(Q:α->MH->Prop)(x:MV)(m:MH):Prop:=Ok (d fr m) (JP (f x) Q)
abbrev ND(Q:List MV->MH->Prop)(x:MV)(xs:List MV)(m:MH):Prop:=Q (x::xs) m
abbrev ACQ(cs:av->MM (List MV))(fr:av)(Q:List MV->MH->Prop)(x:MV)(m:MH):Prop:=Ok (cs fr m) (ND Q x)
abbrev SD(f:List MV->MM MV)(Q:MV->MH->Prop)(x:MV)(xs:List MV)(m:MH):Prop:=Ok (f (x::xs) m) Q
abbrev ad1(ca:av->MM (List MV))(fr:av)(Q:MV->MH->Prop)(x:MV)(F:List MV->MM MV)(m:MH):Prop:=Ok (ca fr m) (SD F Q x)
noncomputable abbrev MeQ(k:Str)(cands:List (Addr×(List MV->MM MV)))(ca:av->MM (List MV))(fr:av)(Q:MV->MH->Prop)(x:MV)(m:MH):Prop:=Ok (qv k cands x m) (ad1 ca fr Q x)
abbrev ad2(f:List MV->MM MV)(ca:av->MM (List MV))(fr:av)(Q:MV->MH->Prop)(x:MV)(_:Unit)(m:MH):Prop:=Ok (ca fr m) (SD f Q x)
abbrev ChQ(P:MH->MV->Bool)(f:List MV->MM MV)(ca:av->MM (List MV))(fr:av)(Q:MV->MH->Prop)(x:MV)(m:MH):Prop:=Ok (Mine.ye P x m) (ad2 f ca fr Q x)
abbrev ad3(ch:av->MM MV)(fr:av)(Q:MV->MH->Prop)(v x:MV)(m:MH):Prop:=Ok (ch fr m) (JP (tY v x) Q)
abbrev CuQ(cl ch:av->MM MV)(fr:av)(Q:MV->MH->Prop)(v:MV)(m:MH):Prop:=Ok (cl fr m) (ad3 ch fr Q v)
abbrev NF{α:Type}(c d:av->MM α)(fr:av)(Q:α->MH->Prop)(b:Bool)(m:MH):Prop:=Ok ((bif b then c fr else d fr) m) Q
section
variable {α β:Type}{fr:av}{m:MH}{b:Bool}{x y v:MV}{xs:List MV}
theorem Ok.pu{Q:α->MH->Prop}{c:av->MM α}{v:α}(h:Pu c fr m v)(q:Q v m):Ok (c fr m) Q:=⟨v,m,h,q⟩
theorem Pu.k{a:α}:Pu (Kc a) fr m a:=Eq.refl (some (a,m))
theorem Pu.rd{i:Nat}(h:slot fr i=some v):Pu (Rd i) fr m v:=Iw h
theorem Pu.ac{c:av->MM MV}{cs:av->MM (List MV)}(h:Pu c fr m x)(k:Pu cs fr m xs):Pu (AC c cs) fr m (x::xs):=Iy h k
theorem Pu.add{c d:av->MM MV}{x y:Int}(h:Pu c fr m (.int x))(k:Pu d fr m (.int y)):Pu (tj c d zK) fr m (.int (x+y)):=(qF h k).trans rfl
theorem Pu.sub{c d:av->MM MV}{x y:Int}(h:Pu c fr m (.int x))(k:Pu d fr m (.int y)):Pu (tj c d Jq) fr m (.int (x-y)):=(qF h k).trans rfl
theorem Pu.mod{c d:av->MM MV}{x y:Int}(h:Pu c fr m (.int x))(k:Pu d fr m (.int y))(p:y≠0):Pu (tj c d Jr) fr m (.int (x.fmod y)):=(qF h k).trans (F0 p)
theorem Pu.fdiv{c d:av->MM MV}{x y:Int}(h:Pu c fr m (.int x))(k:Pu d fr m (.int y))(p:y≠0/\y.natAbs<2 ^ 64):Pu (tj c d Dm) fr m (.int (x.fdiv y)):=(qF h k).trans (Cb p)
theorem Pu.mul{c d:av->MM MV}{x y:Int}(h:Pu c fr m (.int x))(k:Pu d fr m (.int y))(p:x.natAbs<2 ^ 64\/y.natAbs<2 ^ 64):Pu (tj c d BU) fr m (.int (x*y)):=(qF h k).trans (vB p)
theorem Pu.get{c:av->MM MV}{i:Nat}{C:Addr}{cs:List Addr}{k:Str}{fs:List (Str×MV)}(h:Pu c fr m (.obj i))(a:m.ob i= .inst C)(r:m.ob (i+1)= .dO fs)(hC:C∈cs)(hf:lx k fs=some v)(hp:v.plain=true):Pu (oC c (u5 cs k)) fr m v:=
 (vC h).trans (get_eq a r hC hf hp)
theorem Pu.tup{c:av->MM (List MV)}(h:Pu c fr m xs)(p:xs.length<=1000):Pu (oC c Mc) fr m (.tup xs):=(vC h).trans (if_pos p)
theorem Pu.iter{c:av->MM MV}(h:Pu c fr m x):Pu (oC c rS) fr m (srcOf x):=vC h
theorem Ok.ex1{Q:α->MH->Prop}{c:av->MM β}{f:β->MM α}(h:Ok (c fr m) (JP f Q)):Ok (oC c f fr m) Q:=by
 obtain⟨a,m1,e,b,m2,e2,q⟩:=h;exact⟨b,m2,(vC e).trans e2,q⟩
theorem Ok.ad5{Q:α->MH->Prop}{c:av->MM β}{f:β->MM α}{a:β}(h:Pu c fr m a)(q:Ok (f a m) Q):Ok (oC c f fr m) Q:=Ok.ex1 ⟨a,m,h,q⟩
theorem Ok.ex2{Q:α->MH->Prop}{c d:av->MM MV}{f:MV->MV->MM α}(h:Ok (c fr m) (ad0 d f fr Q)):Ok (tj c d f fr m) Q:=by
 obtain⟨a,m1,e,b,m2,e2,c,m3,e3,q⟩:=h;exact⟨c,m3,(qF e e2).trans e3,q⟩
theorem Ok.SE{Q:α->MH->Prop}{c d:av->MM MV}{f:MV->MV->MM α}(h:Pu c fr m x)(q:Ok (d fr m) (JP (f x) Q)):Ok (tj c d f fr m) Q:=Ok.ex2 ⟨x,m,h,q⟩
theorem Ok.ad7{Q:α->MH->Prop}{c d:av->MM MV}{f:MV->MV->MM α}(h:Pu c fr m x)(k:Pu d fr m y)(q:Ok (f x y m) Q):Ok (tj c d f fr m) Q:=Ok.SE h ⟨y,m,k,q⟩
theorem Ok.ac{Q:List MV->MH->Prop}{c:av->MM MV}{cs:av->MM (List MV)}(h:Ok (c fr m) (ACQ cs fr Q)):Ok (AC c cs fr m) Q:=by
 obtain⟨a,m1,e,b,m2,e2,q⟩:=h;exact⟨_,m2,Iy e e2,q⟩
theorem Ok.acp{Q:List MV->MH->Prop}{c:av->MM MV}{cs:av->MM (List MV)}(h:Pu c fr m x)(q:Ok (cs fr m) (ND Q x)):Ok (AC c cs fr m) Q:=Ok.ac ⟨x,m,h,q⟩
theorem Ok.me{Q:MV->MH->Prop}{k:Str}{cands:List (Addr×(List MV->MM MV))}{co:av->MM MV}{ca:av->MM (List MV)}(h:Ok (co fr m) (MeQ k cands ca fr Q)):Ok (MA k cands co ca fr m) Q:=by
 obtain⟨a,m1,e,b,m2,e2,c,m3,e3,d,m4,e4,q⟩:=h;exact⟨d,m4,(JL e e2 e3).trans e4,q⟩
theorem Ok.mep{Q:MV->MH->Prop}{k:Str}{C:Addr}{F:List MV->MM MV}{i:Nat}{fs:List (Str×MV)}{co:av->MM MV}{ca:av->MM (List MV)}(h:Pu co fr m (.obj i))(h3:Pu ca fr m xs)(a:m.ob i= .inst C)(r:m.ob (i+1)= .dO fs)(hf:lx k fs=none)
  (q:Ok (F (.obj i::xs) m) Q):Ok (MA k [(C,F)] co ca fr m) Q:=Ok.me ⟨_,m,h,F,m,vA a r hf,xs,m,h3,q⟩
theorem Ok.ch{Q:MV->MH->Prop}{P:MH->MV->Bool}{f:List MV->MM MV}{co:av->MM MV}{ca:av->MM (List MV)}(h:Ok (co fr m) (ChQ P f ca fr Q)):Ok (Qi P f co ca fr m) Q:=by
 obtain⟨a,m1,e,b,m2,e2,c,m3,e3,d,m4,e4,q⟩:=h;exact⟨d,m4,(JM e e2 e3).trans e4,q⟩
theorem Ok.cu{Q:MV->MH->Prop}{cv cl ch:av->MM MV}(h:Ok (cv fr m) (CuQ cl ch fr Q)):Ok (M8 cv cl ch fr m) Q:=by
 obtain⟨a,m1,e,b,m2,e2,c,m3,e3,d,m4,e4,q⟩:=h;exact⟨d,m4,(JN e e2 e3).trans e4,q⟩
theorem Ok.cup{Q:MV->MH->Prop}{cv cl ch:av->MM MV}(h:Pu cv fr m v)(h2:Pu cl fr m x)(h3:Pu ch fr m y)(q:Ok (tY v x y m) Q):Ok (M8 cv cl ch fr m) Q:=Ok.cu ⟨v,m,h,x,m,h2,y,m,h3,q⟩
theorem Ok.and{Q:Bool->MH->Prop}{c d:av->MM Bool}(h:Ok (c fr m) (NF d (Kc false) fr Q)):Ok (Jh c d fr m) Q:=by
 obtain⟨a,m1,e,b,m2,e2,q⟩:=h;exact⟨b,m2,(F_ e).trans e2,q⟩
theorem Ok.or{Q:Bool->MH->Prop}{c d:av->MM Bool}(h:Ok (c fr m) (NF (Kc true) d fr Q)):Ok (PC c d fr m) Q:=by
 obtain⟨a,m1,e,b,m2,e2,q⟩:=h;exact⟨b,m2,(JJ e).trans e2,q⟩
theorem Ok.if{Q:MV->MH->Prop}{t:av->MM Bool}{c d:av->MM MV}(h:Ok (t fr m) (NF c d fr Q)):Ok (PD t c d fr m) Q:=by
 obtain⟨a,m1,e,b,m2,e2,q⟩:=h;exact⟨b,m2,(JK e).trans e2,q⟩
theorem Ok.rB{Q:MV->MH->Prop}(q:Q (.bool b) m):Ok (Mine.rB b m) Q:=⟨_,m,rfl,q⟩
theorem Ok.rS{Q:Src->MH->Prop}(q:Q (srcOf x) m):Ok (Mine.rS x m) Q:=⟨_,m,rfl,q⟩
theorem Ok.rNt{Q:Bool->MH->Prop}(q:Q false m):Ok (rN true m) Q:=⟨_,m,rfl,q⟩
end
abbrev ad8(k:MV->SM)(fr:av)(Q:eG->av->MH->Prop)(v:MV)(m:MH):Prop:=bL (k v fr m) Q
abbrev ad9(a b:SM)(fr:av)(Q:eG->av->MH->Prop)(v:Bool)(m:MH):Prop:=bL (cond v (a fr m) (b fr m)) Q
abbrev ad_{α:Type}(fr:av)(Q:eG->av->MH->Prop)(_:α)(m:MH):Prop:=Q .next fr m
def Ah(d:SM)(Q:eG->av->MH->Prop):eG->av->MH->Prop
 | .next,fr,m=>bL (d fr m) Q
 |f,fr,m=>Q f fr m
def xx(Q:MV->MH->Prop):eG->av->MH->Prop
 | .ret v,_,m=>Q v m
 | .next,_,m=>Q .none m
 |_,_,_=>False
section
variable {Q:eG->av->MH->Prop}{m m1 m':MH}{fr el:av}{c d:SM}{v:MV}
theorem Ah.next(h:bL (d fr m) Q):Ah d Q .next fr m:=h
theorem Ah.ret(h:Q (.ret v) fr m):Ah d Q (.ret v) fr m:=h
theorem xx.ret{Q:MV->MH->Prop}(h:Q v m):xx Q (.ret v) fr m:=h
theorem xx.next{Q:MV->MH->Prop}(h:Q .none m):xx Q .next fr m:=h
theorem bL.seq(h:bL (c fr m) (Ah d Q)):bL (SM.seq c d fr m) Q:=by
 obtain⟨f,el,m1,e,q⟩:=h;cases f with
 |next=>
  obtain⟨f,ma,m2,e2,q⟩:=q;exact⟨f,ma,m2,(SM.JH e).trans e2,q⟩
 |brk=>exact⟨.brk,el,m1,by unfold SM.seq;rw [e],q⟩
 |cont=>exact⟨_,el,m1,SM.KZ e,q⟩
 |ret v=>exact⟨_,el,m1,SM.Gd e,q⟩
theorem bL.use{c:av->MM MV}{k:MV->SM}(h:Ok (c fr m) (ad8 k fr Q)):bL (SM.use c k fr m) Q:=by
 obtain⟨v,m1,e,f,ma,m2,e2,q⟩:=h;exact⟨f,ma,m2,(SM.DO e).trans e2,q⟩
theorem bL.aea{c:av->MM MV}{k:MV->SM}(h:Pu c fr m v)(q:bL (k v fr m) Q):bL (SM.use c k fr m) Q:= .use ⟨v,m,h,q⟩
theorem bL.test{c:av->MM Bool}{a b:SM}(h:Ok (c fr m) (ad9 a b fr Q)):bL (SM.test c a b fr m) Q:=by
 obtain⟨v,m1,e,f,ma,m2,e2,q⟩:=h;exact⟨f,ma,m2,(SM.FW e).trans e2,q⟩
theorem bL.act{α:Type}{c:MM α}(h:Ok (c m) (ad_ fr Q)):bL (SM.act c fr m) Q:=by
 obtain⟨v,m1,e,q⟩:=h;exact⟨.next,fr,m1,SM.JO e,q⟩
theorem bL.ret{f:eG}(q:Q f fr m):bL (SM.ret f fr m) Q:=⟨f,fr,m,rfl,q⟩
theorem bL.unpack{is:List Nat}{xs:List MV}(h:xs.length=is.length)(q:Q .next (iR fr is xs) m):bL (SM.unpack is (.tup xs) fr m) Q:=⟨.next,iR fr is xs,m,if_pos h,q⟩
theorem bL.si{is:List Nat}{xs:List MV}(h:xs.length=is.length)(q:Q .next (iR fr is xs.reverse) m):bL (SM.si is (.tup xs) fr m) Q:=⟨.next,iR fr is xs.reverse,m,if_pos h,q⟩
def sq(a b:av):Prop:=a=b
theorem sq.rfl{a:av}:sq a a:=Eq.refl a
theorem Ok.dc{Q:MV->MH->Prop}{k:Nat}{dv:List MV}{r:Nat}{xs:List MV}{u9:av}(hl:xs.length<=k/\k<=xs.length+dv.length)(hf:sq ((xs++dv.drop (xs.length+dv.length-k)).map some++List.replicate r none) u9)
  (h:bL (c u9 m) (xx Q)):Ok (dc k dv r c xs m) Q:=by
 obtain⟨f,el,m1,e,q⟩:=h;unfold sq at hf;subst hf;cases f with
 |next=>exact⟨.none,m1,qG hl e (.inr ⟨rfl,rfl⟩),q⟩
 |ret v=>exact⟨v,m1,qG hl e (.inl rfl),q⟩
 |brk=>exact q.elim
 |cont=>exact q.elim
end
section
variable {Q:MV->MH->Prop}{QB:Bool->MH->Prop}{QF:eG->av->MH->Prop}{m:MH}{x y:Int}
theorem Ok.SF(h:x<y)(q:QB true m):Ok (kX (fun a b=>decide (a<b)) (.int x) (.int y) m) QB:= .of (by rw [gG,decide_eq_true h]) q
theorem Ok.SH(h:¬x<y)(q:QB false m):Ok (kX (fun a b=>decide (a<b)) (.int x) (.int y) m) QB:= .of (by rw [gG,decide_eq_false h]) q
theorem Ok.SI(h:x<=y)(q:QB true m):Ok (kX (fun a b=>decide (a<=b)) (.int x) (.int y) m) QB:= .of (by rw [gG,decide_eq_true h]) q
theorem Ok.SJ(h:x>y)(q:QB true m):Ok (kX (fun a b=>decide (a>b)) (.int x) (.int y) m) QB:= .of (by rw [gG,decide_eq_true h]) q
theorem Ok.SK(h:¬x>y)(q:QB false m):Ok (kX (fun a b=>decide (a>b)) (.int x) (.int y) m) QB:= .of (by rw [gG,decide_eq_false h]) q
theorem Ok.aeb(h:¬x>=y)(q:QB false m):Ok (kX (fun a b=>decide (a>=b)) (.int x) (.int y) m) QB:= .of (by rw [gG,decide_eq_false h]) q
theorem Ok.wK(h:x=y)(q:QB true m):Ok (vr (.int x) (.int y) m) QB:= .of (a:=true) (by subst h;show some (x==x,m)=_;rw [beq_self_eq_true]) q
theorem Ok.Ai(h:x≠y)(q:QB false m):Ok (vr (.int x) (.int y) m) QB:= .of (a:=false) (by show some (x==y,m)=_;rw [beq_eq_false_iff_ne.mpr h]) q
theorem Ok.Va{x:Str}(q:QB true m):Ok (vr (.str x) (.str x) m) QB:= .of (a:=true) (by show some (x==x,m)=_;rw [beq_self_eq_true]) q
theorem Ok.NG{x y:Str}(h:(x==y)=false)(q:QB false m):Ok (vr (.str x) (.str y) m) QB:= .of (a:=false) (by show some (x==y,m)=_;rw [h]) q
theorem Ok.eqb{x y:List UInt8}(q:QB (x==y) m):Ok (vr (.bytes x) (.bytes y) m) QB:= .of rfl q
theorem Ok.asb{b:Bool}(q:QB b m):Ok (u0 (.bool b) m) QB:= .of rfl q
theorem Ok.add(q:Q (.int (x+y)) m):Ok (zK (.int x) (.int y) m) Q:= .of rfl q
theorem Ok.Gh{a b:List UInt8}(h:a.length+b.length<=100000)(q:Q (.bytes (a++b)) m):Ok (zK (.bytes a) (.bytes b) m) Q:= .of (if_pos h) q
theorem Ok.SN{i j:Nat}{xs ys:List MV}(hi:m.ob i= .list xs)(hj:m.ob j= .list ys)(h:xs.length+ys.length<=100000)(q:Q (.obj m.n) (m.new (.list (xs++ys)))):Ok (zK (.obj i) (.obj j) m) Q:= .of ((cC hi).trans ((cC hj).trans (if_pos h))) q
theorem Ok.sub(q:Q (.int (x-y)) m):Ok (Jq (.int x) (.int y) m) Q:= .of (FX _ _ _) q
theorem Ok.mul(h:x.natAbs<2 ^ 64\/y.natAbs<2 ^ 64)(q:Q (.int (x*y)) m):Ok (BU (.int x) (.int y) m) Q:= .of (vB h) q
theorem Ok.fdiv(h:y≠0/\y.natAbs<2 ^ 64)(q:Q (.int (x.fdiv y)) m):Ok (Dm (.int x) (.int y) m) Q:= .of (Cb h) q
theorem Ok.mod(h:y≠0)(q:Q (.int (x.fmod y)) m):Ok (Jr (.int x) (.int y) m) Q:= .of (F0 h) q
theorem Ok.get{i:Nat}{C:Addr}{cs:List Addr}{k:Str}{fs:List (Str×MV)}{v:MV}(a:m.ob i= .inst C)(r:m.ob (i+1)= .dO fs)(hC:C∈cs)(hf:lx k fs=some v)(hp:v.plain=true)(q:Q v m):Ok (u5 cs k (.obj i) m) Q:= .of (get_eq a r hC hf hp) q
theorem Ok.set{QU:Unit->MH->Prop}{i:Nat}{C:Addr}{cs:List Addr}{k:Str}{fs:List (Str×MV)}{x:MV}(a:m.ob i= .inst C)(r:m.ob (i+1)= .dO fs)(hC:C∈cs)(hi:i<m.n)(hf:fs.length<=100)(q:QU () (m.set (i+1) (.dO (u3 k x fs)))):Ok (pW cs k (.obj i) x m) QU:= .of (k_ a r hC hi hf) q
theorem Ok.xu{QD:(List MV->MM MV)->MH->Prop}{i:Nat}{C:Addr}{F:List MV->MM MV}{k:Str}{fs:List (Str×MV)}(a:m.ob i= .inst C)(r:m.ob (i+1)= .dO fs)(hf:lx k fs=none)(q:QD F m):Ok (qv k [(C,F)] (.obj i) m) QD:= .of (vA a r hf) q
theorem Ok.aec{QU:Unit->MH->Prop}{i:Nat}{xs:List MV}(h:m.ob i= .list xs)(q:QU () m):Ok (Mine.ye Il (.obj i) m) QU:= .of (Nx h) q
theorem Ok.xy{b:List UInt8}(h:b.length<=100000)(q:Q (.int b.length) m):Ok (vq [.bytes b] m) Q:= .of (if_pos h) q
theorem Ok.aed{b:List MV}(h:b.length<=100000)(q:Q (.int b.length) m):Ok (vq [.tup b] m) Q:= .of (if_pos h) q
theorem Ok.xA{i:Nat}{b:List MV}(o:m.ob i= .list b)(h:b.length<=100000)(q:Q (.int b.length) m):Ok (vq [.obj i] m) Q:= .of (by show uu m (m.ob i)=_;rw [o];exact if_pos h) q
theorem Ok.aee{i:Nat}{b:List UInt8}(o:m.ob i= .ba b)(h:b.length<=100000)(q:Q (.int b.length) m):Ok (vq [.obj i] m) Q:= .of (by show uu m (m.ob i)=_;rw [o];exact if_pos h) q
theorem Ok.aef{i:Nat}{k:Nat}(o:m.ob i= .tL k)(h:k<=100000)(q:Q (.int k) m):Ok (vq [.obj i] m) Q:= .of (by show uu m (m.ob i)=_;rw [o];exact if_pos h) q
theorem Ok.app{i:Nat}{x:MV}{xs:List MV}(o:m.ob i= .list xs)(h:xs.length<=100000/\i<m.n)(q:Q .none (m.set i (.list (xs++ [x])))):Ok (FE [.obj i,x] m) Q:= .of ((cC o).trans (if_pos h)) q
theorem Ok.NI{i j:Nat}{xs ys:List MV}(o:m.ob i= .list xs)(o2:m.ob j= .list ys)(h:xs.length+ys.length<=100000/\i<m.n)(q:Q .none (m.set i (.list (xs++ys)))):Ok (FG [.obj i,.obj j] m) Q:= .of ((cC o).trans ((cC o2).trans (if_pos h))) q
theorem Ok.list{xs:List MV}(h:xs.length<=1000)(q:Q (.obj m.n) (m.new (.list xs))):Ok (Me xs m) Q:= .of (if_pos h) q
theorem Ok.tup{xs:List MV}(h:xs.length<=1000)(q:Q (.tup xs) m):Ok (Mc xs m) Q:= .of (if_pos h) q
theorem Ok.byb{b:List UInt8}(q:Q (.bytes b) m):Ok (oS (.bytes b) m) Q:= .of rfl q
theorem Ok.byi(h:0<=x/\x<=100000)(q:Q (.bytes (List.replicate x.toNat 0)) m):Ok (oS (.int x) m) Q:= .of (if_pos h) q
theorem Ok.bya{i:Nat}{b:List UInt8}(o:m.ob i= .ba b)(h:b.length<=100000)(q:Q (.bytes b) m):Ok (oS (.obj i) m) Q:= .of (by show p9 m (m.ob i)=_;rw [o];exact if_pos h) q
theorem Ok.aeg{xs:List MV}{v:MV}{k:Int}(h: -1<=k/\k<2 ^ 62)(e:xs[if k<0 then xs.length-1 else k.toNat]? =some v)(q:Q v m):Ok (zN (.tup xs) (.int k) m) Q:= .of ((if_pos h).trans (aV e)) q
theorem Ok.qa{i:Nat}{xs:List MV}{v:MV}{k:Int}(o:m.ob i= .list xs)(h:0<=k/\k<2 ^ 62)(e:xs[k.toNat]? =some v)(q:Q v m):Ok (zN (.obj i) (.int k) m) Q:= .of (by show zM k m (m.ob i)=_;rw [o];exact(if_pos h).trans (aV e)) q
theorem Ok.aeh{i:Nat}{b:List UInt8}{k:Int}(o:m.ob i= .ba b)(h:0<=k/\k<b.length/\b.length<=100000)(q:Q (.int ((b.getD k.toNat 0).toNat:Int)) m):Ok (zN (.obj i) (.int k) m) Q:= .of (by show zM k m (m.ob i)=_;rw [o];exact if_pos h) q
theorem Ok.su{b:List UInt8}{x y:MV}{lo hi:Option Int}(hx:tX x=some lo)(hy:tX y=some hi)(h:b.length<=100000)(q:Q (.bytes (c8 b lo hi)) m):Ok (tY (.bytes b) x y m) Q:= .of ((aV hx).trans ((aV hy).trans (if_pos h))) q
theorem Ok.Gi{i:Nat}{b:List MV}{x y:MV}{lo hi:Option Int}(o:m.ob i= .list b)(hx:tX x=some lo)(hy:tX y=some hi)(h:b.length<=100000)(q:Q (.obj m.n) (m.new (.list (c8 b lo hi)))):Ok (tY (.obj i) x y m) Q:= .of ((aV hx).trans ((aV hy).trans (by show Dx lo hi m (m.ob i)=_;rw [o];exact if_pos h))) q
theorem Ok.aei{i:Nat}{b:List UInt8}{x y:MV}{lo hi:Option Int}(o:m.ob i= .ba b)(hx:tX x=some lo)(hy:tX y=some hi)(h:b.length<=100000)(q:Q (.obj m.n) (m.new (.ba (c8 b lo hi)))):Ok (tY (.obj i) x y m) Q:= .of ((aV hx).trans ((aV hy).trans (by show Dx lo hi m (m.ob i)=_;rw [o];exact if_pos h))) q
theorem Ok.se{c:MV->MM MV}{x:MV}(h:Ok (c x m) Q):Ok (Mine.se c [x] m) Q:=h
theorem Ok.yd{c:MV->MV->MM MV}{x y:MV}(h:Ok (c x y m) Q):Ok (Mine.yd c [x,y] m) Q:=h
theorem Ok.NJ{i:Nat}{xs:List MV}(o:m.ob i= .list xs)(h:xs.length<=100000)(q:Q (.tup xs) m):Ok (Ju (.obj i) m) Q:= .of ((cC o).trans (if_pos h)) q
end
theorem bL.pt0{Q:eG->av->MH->Prop}{z:Option MV}{v:MV}{r:av}{m:MH}(q:Q .next (some v::r) m):bL (SM.put 0 v (z::r) m) Q:=⟨_,_,m,rfl,q⟩
theorem bL.UY{Q:eG->av->MH->Prop}{a:Option MV}{z:Option MV}{v:MV}{r:av}{m:MH}(q:Q .next (a::some v::r) m):bL (SM.put 1 v (a::z::r) m) Q:=⟨_,_,m,rfl,q⟩
theorem bL.UZ{Q:eG->av->MH->Prop}{a b:Option MV}{z:Option MV}{v:MV}{r:av}{m:MH}(q:Q .next (a::b::some v::r) m):bL (SM.put 2 v (a::b::z::r) m) Q:=⟨_,_,m,rfl,q⟩
theorem bL.pt3{Q:eG->av->MH->Prop}{a b c:Option MV}{z:Option MV}{v:MV}{r:av}{m:MH}(q:Q .next (a::b::c::some v::r) m):bL (SM.put 3 v (a::b::c::z::r) m) Q:=⟨_,_,m,rfl,q⟩
theorem bL.pt4{Q:eG->av->MH->Prop}{a b c d:Option MV}{z:Option MV}{v:MV}{r:av}{m:MH}(q:Q .next (a::b::c::d::some v::r) m):bL (SM.put 4 v (a::b::c::d::z::r) m) Q:=⟨_,_,m,rfl,q⟩
theorem bL.pt5{Q:eG->av->MH->Prop}{a b c d e:Option MV}{z:Option MV}{v:MV}{r:av}{m:MH}(q:Q .next (a::b::c::d::e::some v::r) m):bL (SM.put 5 v (a::b::c::d::e::z::r) m) Q:=⟨_,_,m,rfl,q⟩
theorem bL.pt6{Q:eG->av->MH->Prop}{a b c d e f:Option MV}{z:Option MV}{v:MV}{r:av}{m:MH}(q:Q .next (a::b::c::d::e::f::some v::r) m):bL (SM.put 6 v (a::b::c::d::e::f::z::r) m) Q:=⟨_,_,m,rfl,q⟩
theorem bL.pt7{Q:eG->av->MH->Prop}{a b c d e f g:Option MV}{z:Option MV}{v:MV}{r:av}{m:MH}(q:Q .next (a::b::c::d::e::f::g::some v::r) m):bL (SM.put 7 v (a::b::c::d::e::f::g::z::r) m) Q:=⟨_,_,m,rfl,q⟩
theorem bL.aej{Q:eG->av->MH->Prop}{a b c d e f g h i j:Option MV}{z:Option MV}{v:MV}{r:av}{m:MH}(q:Q .next (a::b::c::d::e::f::g::h::i::j::some v::r) m):bL (SM.put 10 v (a::b::c::d::e::f::g::h::i::j::z::r) m) Q:=⟨_,_,m,rfl,q⟩
theorem bL.aek{Q:eG->av->MH->Prop}{a b c d e f g h i j k:Option MV}{z:Option MV}{v:MV}{r:av}{m:MH}(q:Q .next (a::b::c::d::e::f::g::h::i::j::k::some v::r) m):bL (SM.put 11 v (a::b::c::d::e::f::g::h::i::j::k::z::r) m) Q:=⟨_,_,m,rfl,q⟩
theorem Gj{fr:av}:iR fr [] []=fr:=rfl
theorem DS{fr:av}{i:Nat}{is:List Nat}{x:MV}{xs:List MV}:iR fr (i::is) (x::xs)=iR (fr.set i (some x)) is xs:=rfl
theorem Ok.cps{α:Type}{r:Option (α×MH)}{P:α->MH->Prop}(h:∀Q:α->MH->Prop,(∀a m,P a m->Q a m)->Ok r Q):Ok r P:=h P fun ψ ψ h=>h
theorem bL.cps{r:Option (eG×av×MH)}{P:eG->av->MH->Prop}(h:∀Q:eG->av->MH->Prop,(∀f fr m,P f fr m->Q f fr m)->bL r Q):bL r P:=h P fun ψ ψ ψ h=>h
theorem nx{P:Prop}(h:P):eG.next=eG.next/\P:=⟨rfl,h⟩
section
variable {α β:Type}{fr:av}{m:MH}{v:MV}{w:α}{xs:List MV}
theorem Ok.kc{Q:α->MH->Prop}(q:Q w m):Ok (Kc w fr m) Q:=⟨w,m,rfl,q⟩
theorem Ok.rd{Q:MV->MH->Prop}{i:Nat}(h:slot fr i=some v)(q:Q v m):Ok (Rd i fr m) Q:=⟨v,m,Iw h,q⟩
theorem Ok.p1{Q:α->MH->Prop}{c:av->MM β}{f:β->MM α}(h:Pu (oC c f) fr m w)(q:Q w m):Ok (oC c f fr m) Q:=⟨w,m,h,q⟩
theorem Ok.p2{Q:α->MH->Prop}{c d:av->MM MV}{f:MV->MV->MM α}(h:Pu (tj c d f) fr m w)(q:Q w m):Ok (tj c d f fr m) Q:=⟨w,m,h,q⟩
theorem Ok.pa{Q:List MV->MH->Prop}{c:av->MM MV}{d:av->MM (List MV)}(h:Pu (AC c d) fr m xs)(q:Q xs m):Ok (AC c d fr m) Q:=⟨xs,m,h,q⟩
end
end
local macro_rules | `(tactic|keq_rows)=>Mine.alts "Pu.k Pu.rd:d Pu.ac:aa Pu.add:aa Pu.sub:aa Pu.mod:aac Pu.fdiv:aac Pu.mul:aaf Pu.get:abbcdd Pu.iter:a Pu.tup:ae"
open Lean in
local macro_rules | `(tactic|keq_hits)=>do `(tactic|first|focus ((repeat (first|apply $(mkIdent `sx.nil)|apply $(mkIdent `sx.cons)));done)|(dsimp only [$[$((("Gj DS List.set_cons_zero List.set_cons_succ List.reverse List.reverseAux List.nil_append List.length_cons List.length_nil List.map List.replicate List.cons_append List.drop Nat.reduceAdd Nat.reduceSub".splitOn " ").map fun s=>mkIdent s.toName).toArray):ident],*];exact sq.rfl))
section
protected def stl:String:="bL.seq bL.aea:a bL.use bL.test Ok.kc Ok.rd:d Ok.p1:a Ok.ad5:a Ok.ex1 Ok.p2:a Ok.ad7:aa Ok.SE:a Ok.ex2 Ok.pa:a Ok.acp:a Ok.ac Ok.mep:aabbd Ok.me Ok.ch Ok.cup:aaa Ok.cu Ok.and Ok.or Ok.if Ok.rB Ok.rS Ok.rNt Ok.bind Ok.ret Ok.bt Ok.bf bL.bt bL.bf bL.ret Ah.next Ah.ret xx.ret xx.next IC.next ID.next nx pL.next pL.ret sy.t sy.f hj hq bL.pt0 bL.UY bL.UZ bL.pt3 bL.pt4 bL.pt5 bL.pt6 bL.pt7 bL.aej bL.aek Ok.se Ok.yd Ok.add Ok.sub Ok.asb Ok.byb Ok.Va bL.act Ok.get:bbcdd Ok.xu:bbd Ok.aec:b Ok.mod:c Ok.fdiv:c Ok.ne Ok.DU Ok.Vb t9.t t9.f bL.NP:dg bL.K1:dg Ok.aeu Ok.aev Ok.aew Ok.aex:b Ok.aey Ok.QA Ok.QC Ok.max2 Ok.Vh:gf Ok.aeg:fd Ok.aeR Ok.aeS Ok.mul:f Ok.SF:f Ok.SH:f Ok.SI:f Ok.SJ:f Ok.SK:f Ok.aeb:f Ok.wK:f Ok.Ai:f Ok.tup:e Ok.list:e Ok.NG:c"
end
local macro_rules | `(tactic|lcg_off)=>do `(tactic|repeat $(<- Mine.alts Mine.stl):tactic)
local macro_rules | `(tactic|lcg_src)=>do `(tactic|repeat $(<- Mine.alts (Mine.stl.replace "bL.test " "")):tactic)
section
variable {J:av->MH->Prop}{Q:eG->av->MH->Prop}{fr:av}{m:MH}{src:Src}{n:Nat}{T:av->List MV->MH->Prop}{ys:List MV}
def pL(J:av->MH->Prop)(Q:eG->av->MH->Prop):eG->av->MH->Prop
 | .next,fr,m=>J fr m
 | .cont,fr,m=>J fr m
 | .brk,fr,m=>Q .next fr m
 | .ret v,fr,m=>Q (.ret v) fr m
theorem pL.next(h:J fr m):pL J Q .next fr m:=h
theorem pL.ret{v:MV}(h:Q (.ret v) fr m):pL J Q (.ret v) fr m:=h
def IC(body:SM)(L:eG->av->MH->Prop):eG->av->MH->Prop
 | .next,fr,m=>bL (body fr m) L
 |_,_,_=>False
theorem IC.next{body:SM}{L:eG->av->MH->Prop}(h:bL (body fr m) L):IC body L .next fr m:=h
section
variable {ci:av->MM Src}{tg:MV->SM}{body:SM}{fr:av}{m:MH}{Q:eG->av->MH->Prop}
theorem Aj{I:Nat->av->MH->Prop}(hlen:∀k fr m,k<=n->I k fr m->src.len m=some n)
  (step:∀k fr m,k<n->I k fr m->∃v,src.item k m=some v/\bL (tg v fr m) (IC body (pL (I (k+1)) Q)))(done:∀fr m,I n fr m->Q .next fr m):
  ∀r fr m,r<=n->I (n-r) fr m->bL (SM.loop src n tg body r fr m) Q
 |0,fr,m,h,i=>⟨_,_,_,if_pos (hlen _ fr m (Nat.sub_le _ _) i),done _ _ i⟩
 |r+1,fr,m,h,i=>by
  obtain⟨v,h1,f,el,m1,e1,q0⟩:=step (n-(r+1)) fr m (by exact Tw h) i;cases f with
  |next=> ?_
  |_=>exact q0.elim
  obtain⟨f2,ma,m2,e2,q⟩:=q0;rw [SM.Nw (hlen _ fr m (Nat.sub_le _ _) i) h1 e1,e2];rw [show n-(r+1)+1=n-r by exact RI h] at q;cases f2 with
  |brk=>exact⟨_,_,_,rfl,q⟩
  |ret v=>exact⟨_,_,_,rfl,q⟩
  |_=>exact Aj hlen step done r ma m2 (by exact Pd h) q
theorem bL.forIn(h:Ok (ci fr m) fun src m1=>∃n,src.len m1=some n/\bL (SM.loop src n tg body n fr m1) Q):bL (SM.forIn ci tg body fr m) Q:=
 h.elim fun ψ h=>h.elim fun ψ h=>h.2.elim fun ψ k=>k.2.imp fun ψ=>Exists.imp fun ψ=>Exists.imp fun ψ q=>⟨(aV h.1).trans ((aV k.1).trans q.1),q.2⟩
theorem bL.forL(i:Nat)(xs:List MV)(I:Nat->av->MH->Prop)(hc:Ok (ci fr m) fun src m1=>src=srcOf (.obj i)/\I 0 fr m1)(ho:∀k fr m,I k fr m->m.ob i= .list xs)
  (step:∀k v fr m,xs[k]? =some v->I k fr m->∀J,(∀fr m,I (k+1) fr m->J fr m)->bL (tg v fr m) (IC body (pL J Q)))(done:∀fr m,I xs.length fr m->Q .next fr m):bL (SM.forIn ci tg body fr m) Q:=by
 refine bL.forIn (hc.mono fun src m1 h=> ?_);obtain⟨rfl,h0⟩:=h;have hl:∀k fr m,I k fr m->(srcOf (.obj i)).len m=some xs.length:=fun k fr m h=>y_ (ho k fr m h);refine⟨xs.length,hl _ _ _ h0,Aj (fun k fr m ψ h=>hl k fr m h) (fun k fr m hk h=> ?_) done xs.length fr m1 (dT _) (by rw [Nat.sub_self];exact h0)⟩;refine⟨xs[k], ?_,step k _ fr m (iP hk) h _ fun ψ ψ h=>h⟩;rw [sR (ho k fr m h)];exact iP hk
theorem bL.forR(n:Nat)(I:Nat->av->MH->Prop)(hz:(n:Int)<2 ^ 60)(hc:Ok (ci fr m) fun src m1=>src=srcOf (.oz 0 n)/\I 0 fr m1)
  (step:∀k fr m,k<n->I k fr m->∀J,(∀fr m,I (k+1) fr m->J fr m)->bL (tg (.int (k:Int)) fr m) (IC body (pL J Q)))(done:∀fr m,I n fr m->Q .next fr m):bL (SM.forIn ci tg body fr m) Q:=by
 refine bL.forIn (hc.mono fun src m1 h=> ?_);obtain⟨rfl,h0⟩:=h;refine⟨n,vD hz,Aj (fun k fr m ψ h=>vD hz) (fun k fr m hk h=> ?_) done n fr m1 (dT _) (by rw [Nat.sub_self];exact h0)⟩;exact⟨.int (k:Int),rfl,step k fr m hk h _ fun ψ ψ h=>h⟩
end
abbrev SO(T:av->List MV->MH->Prop)(ys:List MV)(fr:av)(y:MV)(m:MH):Prop:=T fr (ys++ [y]) m
def sy(T:av->List MV->MH->Prop)(ys:List MV)(dy:av->MM MV)(fr:av):Bool->MH->Prop
 |true,m=>Ok (dy fr m) (SO T ys fr)
 |false,m=>T fr ys m
def ID(test:av->MM Bool)(dy:av->MM MV)(T:av->List MV->MH->Prop)(ys:List MV):eG->av->MH->Prop
 | .next,fr,m=>Ok (test fr m) (sy T ys dy fr)
 |_,_,_=>False
section
variable {ci:av->MM Src}{tg:MV->SM}{test:av->MM Bool}{dy:av->MM MV}{fr:av}{m:MH}{Q:MV->MH->Prop}{kk:Nat}{idx:List Nat}
theorem ID.next(h:Ok (test fr m) (sy T ys dy fr)):ID test dy T ys .next fr m:=h
theorem sy.t(h:Ok (dy fr m) (SO T ys fr)):sy T ys dy fr true m:=h
theorem sy.f(h:T fr ys m):sy T ys dy fr false m:=h
theorem uB{J:av->Prop}{P:Nat->List MV->MH->Prop}(hlen:∀k ys m,k<=n->P k ys m->src.len m=some n)
  (step:∀k ys fr m,k<n->P k ys m->J fr->∃v,src.item k m=some v/\bL (tg v fr m) (ID test dy (fun fr ys m=>J fr/\P (k+1) ys m) ys)):
  ∀r ys fr m,r<=n->P (n-r) ys m->J fr->∃zs m',gX src n tg test dy r ys fr m=some (zs,m')/\P n zs m'
 |0,ys,fr,m,h,i,j=>⟨_,_,if_pos (hlen _ ys m (Nat.sub_le _ _) i),i⟩
 |r+1,ys,fr,m,h,i,j=>by
  obtain⟨v,h1,f,el,m1,e1,q0⟩:=step (n-(r+1)) ys fr m (by exact Tw h) i j;cases f with
  |next=> ?_
  |_=>exact q0.elim
  obtain⟨t,m2,e2,q⟩:=q0;rw [Ad (t:=(t,m2)) (hlen _ ys m (Nat.sub_le _ _) i) h1 e1 e2];rw [show n-(r+1)+1=n-r by exact RI h] at q;cases t with
  |false=>exact uB hlen step r ys el m2 (by exact Pd h) q.2 q.1
  |true=>
   obtain⟨y,m3,e3,q1,q2⟩:=q;obtain⟨zs,m4,e4,q4⟩:=uB hlen step r (ys++ [y]) el m3 (by exact Pd h) q2 q1;exact⟨zs,m4,(aV e3).trans e4,q4⟩
theorem Ok.comp(n:Nat)(src:Src)(J:av->Prop)(P:Nat->List MV->MH->Prop)(hn:n<=100000)(hc:Ok (ci fr m) fun s m1=>s=src/\P 0 [] m1)(h0:J (List.replicate kk none++idx.map (slot fr)))
  (hlen:∀k ys m,k<=n->P k ys m->src.len m=some n)
  (step:∀k ys fr m,k<n->P k ys m->J fr->∃v,src.item k m=some v/\bL (tg v fr m) (ID test dy (fun fr ys m=>J fr/\P (k+1) ys m) ys))
  (done:∀ys m,P n ys m->Q (.obj m.n) (m.new (.list ys))):Ok (jf ci kk idx tg test dy fr m) Q:=by
 obtain⟨s,m1,e,rfl,p0⟩:=hc;obtain⟨zs,m2,e2,q⟩:=uB hlen step n [] _ m1 (dT _) (by rw [Nat.sub_self];exact p0) h0;exact⟨_,_,Ca e (hlen 0 [] m1 (Nat.zero_le _) p0) hn e2,done zs m2 q⟩
theorem Ok.kj(i:Nat)(xs:List MV)(J:av->Prop)(P:Nat->List MV->MH->Prop)(hn:xs.length<=100000)(hc:Ok (ci fr m) fun s m1=>s=srcOf (.obj i)/\P 0 [] m1)(h0:J (List.replicate kk none++idx.map (slot fr)))
  (ho:∀k ys m,P k ys m->m.ob i= .list xs)
  (step:∀k v ys fr m,xs[k]? =some v->P k ys m->J fr->∀T,(∀fr ys m,J fr/\P (k+1) ys m->T fr ys m)->bL (tg v fr m) (ID test dy T ys))
  (done:∀ys m,P xs.length ys m->Q (.obj m.n) (m.new (.list ys))):Ok (jf ci kk idx tg test dy fr m) Q:=by
 refine Ok.comp xs.length _ J P hn hc h0 (fun k ys m ψ h=>y_ (ho k ys m h)) (fun k ys fr m hk p j=> ?_) done;refine⟨xs[k], ?_,step k _ ys fr m (iP hk) p j _ fun ψ ψ ψ h=>h⟩;rw [sR (ho k ys m p)];exact iP hk
theorem Ok.DT(n:Nat)(J:av->Prop)(P:Nat->List MV->MH->Prop)(hn:n<=100000)(hc:Ok (ci fr m) fun s m1=>s=srcOf (.oz 0 n)/\P 0 [] m1)(h0:J (List.replicate kk none++idx.map (slot fr)))
  (step:∀k ys fr m,k<n->P k ys m->J fr->∀T,(∀fr ys m,J fr/\P (k+1) ys m->T fr ys m)->bL (tg (.int (k:Int)) fr m) (ID test dy T ys))
  (done:∀ys m,P n ys m->Q (.obj m.n) (m.new (.list ys))):Ok (jf ci kk idx tg test dy fr m) Q:=
 Ok.comp n _ J P hn hc h0 (fun k ys m ψ h=>vD (by exact ZF hn)) (fun k ys fr m hk p j=>⟨.int (k:Int),rfl,step k ys fr m hk p j _ fun ψ ψ ψ h=>h⟩) done
end
def t9(Q:Bool->MH->Prop):Bool->MH->Prop
 |true,m=>Q false m
 |false,m=>Q true m
section
variable {Q:Bool->MH->Prop}{m:MH}{x y:MV}
theorem t9.t(h:Q false m):t9 Q true m:=h
theorem t9.f(h:Q true m):t9 Q false m:=h
theorem Ok.neg{c:MM Bool}(h:Ok (c m) (t9 Q)):Ok (MM.bind c (fun b=>MM.ret (!b)) m) Q:=by
 refine Ok.bind (h.mono fun b m1 q=> ?_);cases b <;> exact Ok.ret q
theorem Ok.ne(h:Ok (vr x y m) (t9 Q)):Ok (mNe x y m) Q:=Ok.neg h
theorem Ok.DU(h:Ok (FA x y m) (t9 Q)):Ok (JB x y m) Q:=Ok.neg h
theorem Ok.Vb(h:Ok (Fz x y m) (t9 Q)):Ok (Jx x y m) Q:=Ok.neg h
end
theorem cW{α:Type}{l:List α}{k:Nat}{x:α}(h:l[k]? =some x):l.take (k+1)=l.take k++ [x]:=by rw [List.take_add_one,h];rfl
end
section
variable {m m':MH}{i j:Nat}{b:List UInt8}{g:Int}{xs:List MV}{v:MV}
structure Top where
 s:Nat
 g:Int
 p:Nat
 ks:List Int
noncomputable def gH:Nat->Str
 |0=>"disk"
 |1=>"mirror"
 |_=>"raidz"
noncomputable def strOf(l:List Nat):Str:=⟨l.toArray⟩
structure d_ where
 name:List Nat
 gR:Int
 ed:Int
 e_:List Top
structure Gk (m:MH) (i j:Nat) (nm:Str) (g e:Int) (xs:List MV):Prop where
 a:m.ob i= .inst 254
 r:m.ob (i+1)= .dO [("name",.str nm),("guid",.int g),("tops",.obj j),("edition",.int e)]
 c:m.ob j= .list xs
 l:i+1<m.n/\j<m.n
structure NK (m m':MH):Prop where
 n:m.n<=m'.n
 nd:∀ {i j s g p xs},vI m i j s g p xs->vI m' i j s g p xs
 cf:∀ {i j s g p xs},Gk m i j s g p xs->Gk m' i j s g p xs
theorem NK.refl(m:MH):NK m m:=⟨dT _,id,id⟩
theorem NK.trans{a b c:MH}(x:NK a b)(y:NK b c):NK a c:=⟨jb x.n y.n,fun h=>y.nd (x.nd h),fun h=>y.cf (x.cf h)⟩
theorem NK.of(x:Ext m m'):NK m m':=by
 refine⟨x.n,fun h=> ?_,fun h=> ?_⟩
 all_goals
  refine az fun zG=> ?_;obtain⟨a,r,c,l1,l2⟩:=h;refine zG ?_;exact⟨(x.ob _ (by exact O3 l1)).trans a,(x.ob _ l1).trans r,(x.ob _ l2).trans c,eD l1 x.n,eD l2 x.n⟩
theorem NK.ofB(x:fj j m m')(h1:∀C,m.ob j≠ .inst C)(h2:∀xs,m.ob j≠ .list xs)(h3:∀i fs,j=i+1->m.ob j= .dO fs->m.ob i≠ .inst 227/\m.ob i≠ .inst 254):NK m m':=by
 refine⟨x.n,fun h=> ?_,fun h=> ?_⟩
 all_goals
  refine az fun zG=> ?_;obtain⟨a,r,c,l1,l2⟩:=h;refine zG ?_;refine⟨(x.ob _ (by exact O3 l1) fun q=> ?_).trans a,(x.ob _ l1 fun q=> ?_).trans r,(x.ob _ l2 fun q=> ?_).trans c,eD l1 x.n,eD l2 x.n⟩
  ·exact h1 _ (q▸a)
  ·first|exact(h3 _ _ q.symm (q▸r)).1 a|exact(h3 _ _ q.symm (q▸r)).2 a
  ·exact h2 _ (q▸c)
theorem dH.nk(S:dH m i j b)(x:fj j m m'):NK m m':=
 .ofB x (fun C q=>by rw [S.o] at q;cases q) (fun C q=>by rw [S.o] at q;cases q) fun k fs ψ q=>by rw [S.o] at q;cases q
theorem fv.nk{k:Nat}(S:fv m i b k)(x:fj (i+1) m m'):NK m m':=
 .ofB x (fun C q=>by rw [S.r] at q;cases q) (fun C q=>by rw [S.r] at q;cases q) fun j fs h ψ=>by
  obtain rfl:i=j:=by exact Tn h
  rw [S.a];exact⟨fun q=>by injection q with q;exact absurd q (bR rfl),fun q=>by injection q with q;exact absurd q (bR rfl)⟩
def iu(m:MH)(v:MV)(g:Int):Prop:=∃i j,v= .obj i/\vI m i j "disk" g 0 []
def mK(m:MH)(v:MV)(T:Top):Prop:=∃i j xs,v= .obj i/\vI m i j (gH T.s) T.g (T.p:Int) xs/\F2 (iu m) xs T.ks
def eY(m:MH)(v:MV)(C:d_):Prop:=∃i j xs,v= .obj i/\Gk m i j (strOf C.name) C.gR C.ed xs/\F2 (mK m) xs C.e_
section
variable {m m':MH}{v:MV}
theorem iu.keep(h:iu m v g)(x:NK m m'):iu m' v g:=h.imp fun ψ=>Exists.imp fun ψ=>And.imp_right x.nd
theorem mK.keep{g:Top}(h:mK m v g)(x:NK m m'):mK m' v g:=h.imp fun ψ=>Exists.imp fun ψ=>Exists.imp fun ψ=>And.imp_right fun h=>⟨x.nd h.1,h.2.mono fun ψ ψ a=>a.keep x⟩
theorem eY.keep{g:d_}(h:eY m v g)(x:NK m m'):eY m' v g:=h.imp fun ψ=>Exists.imp fun ψ=>Exists.imp fun ψ=>And.imp_right fun h=>⟨x.cf h.1,h.2.mono fun ψ ψ a=>a.keep x⟩
end
def xB(m m':MH)(r:MV)(xs:List MV):Prop:=∃o,r= .obj o/\m.n<=o/\o<m'.n/\m'.ob o= .list xs/\Ext m m'
theorem Ok.nl{r:Option (MV×MH)}{Q:MV->MH->Prop}(h:Ok r fun v m'=>xB m m' v xs)(q:∀o m',m.n<=o->o<m'.n->m'.ob o= .list xs->Ext m m'->Q (.obj o) m'):Ok r Q:=h.mono fun v m' ⟨o,e,p⟩=>e▸q o m' p.1 p.2.1 p.2.2.1 p.2.2.2
theorem xB.of{m1:MH}(x:Ext m m1):xB m (m1.new (.list xs)) (.obj m1.n) xs:=⟨_,rfl,x.n,gA _,bc _ _,x.trans (.new _ _)⟩
noncomputable def DV(g:Int):MV:= .tup [.str "disk",.int g,.int 0,.tup []]
noncomputable def JQ(T:Top):MV:= .tup [.str (gH T.s),.int T.g,.int T.p,.tup (T.ks.map DV)]
noncomputable def DW(C:d_):MV:= .tup [.str (strOf C.name),.int C.gR,.int C.ed,.tup (C.e_.map JQ)]
theorem DX(h:iu m v g):Ok (mF.1 [v] m) fun r m'=>r=DV g/\Ext m m':=by
 refine az fun zG=> ?_;obtain⟨i,j,rfl,a,r,c,l⟩:=h;refine zG ?_;dsimp only [mF];refine Ok.cps fun Q hq=> ?_;refine Ok.dc (eM rfl) (by keq_hits) ?_;lcg_off;refine Ok.kj j [] (fun fr=>True) (fun k ys m1=>m1=m/\ys= []) (by simp) ?_ trivial ?_ ?_ ?_
 ·lcg_off;exact⟨rfl,rfl,rfl⟩
 ·rintro k ys m1 ⟨rfl,_⟩;exact c
 ·intro k v ys fr m1 e;exact absurd e (by simp)
 ·rintro ys m1 ⟨rfl,rfl⟩;lcg_off;refine Ok.NJ (bc _ _) (by simp) ?_;lcg_off;exact⟨rfl,.new _ _⟩
theorem Gl{T:Top}(h:mK m v T)(hz:T.ks.length<=100):Ok (mG.1 [v] m) fun r m'=>r=JQ T/\Ext m m':=by
 refine az fun zG=> ?_;obtain⟨i,j,xs,rfl,⟨a,r,c,l⟩,F⟩:=h;refine zG ?_;have hx:=F.len;dsimp only [mG];refine Ok.cps fun Q hq=> ?_;refine Ok.dc (eM rfl) (by keq_hits) ?_;lcg_off;refine Ok.kj j xs (fun fr=>∃o,fr= [o]) (fun k ys m1=>Ext m m1/\ys=(T.ks.take k).map DV) (by exact J7 hz hx) ?_ ⟨_,rfl⟩ ?_ ?_ ?_
 ·lcg_off;exact⟨rfl,.refl _,rfl⟩
 ·rintro k ys m1 ⟨x,_⟩;exact(x.ob _ l.2).trans c
 ·intro k v ys fr m1 e gP lK U hj;refine az fun zG=> ?_;obtain⟨x,rfl⟩:=gP;obtain⟨o,rfl⟩:=lK;refine zG ?_;refine az fun zG=> ?_;obtain⟨g,hg,L⟩:=F.get e;refine zG ?_;have L1:=L.keep (.of x);refine az fun zG=> ?_;obtain⟨i2,j2,rfl,a2,r2,c2,l2⟩:=id L1;refine zG ?_;lcg_off;refine(DX L1).q1 ?_;intro m2 x2;lcg_off;exact⟨⟨_,rfl⟩,x.trans x2,by rw [cW hg,ja];rfl⟩
 ·rintro ys m1 ⟨x,rfl⟩;lcg_off;refine Ok.NJ (bc _ _) (by simp;exact R2 hz hx) ?_;lcg_off;rw [hx,g_];exact⟨rfl,x.trans (.new _ _)⟩
theorem jy{C:d_}(h:eY m v C)(hz:C.e_.length<=100)(NL:∀T∈C.e_,T.ks.length<=100):Ok (f9.1 [v] m) fun r m'=>r=DW C/\Ext m m':=by
 refine az fun zG=> ?_;obtain⟨i,j,xs,rfl,⟨a,r,c,l⟩,F⟩:=h;refine zG ?_;have hx:=F.len;dsimp only [f9];refine Ok.cps fun Q hq=> ?_;refine Ok.dc (eM rfl) (by keq_hits) ?_;lcg_off;refine Ok.kj j xs (fun fr=>∃o,fr= [o]) (fun k ys m1=>Ext m m1/\ys=(C.e_.take k).map JQ) (by exact J7 hz hx) ?_ ⟨_,rfl⟩ ?_ ?_ ?_
 ·lcg_off;exact⟨rfl,.refl _,rfl⟩
 ·rintro k ys m1 ⟨x,_⟩;exact(x.ob _ l.2).trans c
 ·intro k v ys fr m1 e gP lK U hj;refine az fun zG=> ?_;obtain⟨x,rfl⟩:=gP;obtain⟨o,rfl⟩:=lK;refine zG ?_;refine az fun zG=> ?_;obtain⟨T,hg,L⟩:=F.get e;refine zG ?_;have L1:=L.keep (.of x);refine az fun zG=> ?_;obtain⟨i2,j2,xs2,rfl,⟨a2,r2,c2,l2⟩,F2⟩:=id L1;refine zG ?_;lcg_off;refine(Gl L1 (NL _ (jB hg))).q1 ?_;intro m2 x2;lcg_off;exact⟨⟨_,rfl⟩,x.trans x2,by rw [cW hg,ja];rfl⟩
 ·rintro ys m1 ⟨x,rfl⟩;lcg_off;refine Ok.NJ (bc _ _) (by simp;exact R2 hz hx) ?_;lcg_off;rw [hx,g_];exact⟨rfl,x.trans (.new _ _)⟩
end
section
variable {m:MH}{v:MV}{T:Top}{α β:Type}
theorem Ext.oY{m2:MH}{o:Nat}{x:MO}(h:Ext m m2)(ho:m.n<=o):Ext m (m2.set o x):=⟨h.n,fun i hi=>(cc (by exact Wn ho hi)).trans (h.ob i hi)⟩
theorem ym{g:Int}(h:iu m v g):Ok (pF.1 [v] m) fun r m'=>xB m m' r [.int g]:=by
 refine az fun zG=> ?_;obtain⟨i,j,rfl,a,r,c,l⟩:=h;refine zG ?_;dsimp only [pF];refine Ok.cps fun Q hq=> ?_;refine Ok.dc (eM rfl) (by keq_hits) ?_;lcg_off
 skip
 lcg_off;exact .of (.refl _)
noncomputable def gy(T:Top):List Int:=if T.s=0 then [T.g] else T.ks
theorem NM{s:Nat}(h:s≠0):(gH s==("disk":Str))=false:=by
 match s,h with
 |1,_=>decide
 |n+2,_=>show(("raidz":Str)==("disk":Str))=false;decide
theorem sD(h:mK m v T)(hz:T.ks.length<=100):Ok (lX.1 [v] m) fun r m'=>xB m m' r ((gy T).map .int):=by
 refine az fun zG=> ?_;obtain⟨i,j,xs,rfl,⟨a,r,c,l⟩,F⟩:=h;refine zG ?_;have hx:=F.len;dsimp only [lX];refine Ok.cps fun Q hq=> ?_;refine Ok.dc (eM rfl) (by keq_hits) ?_
 by_cases hs:T.s=0
 ·rw [hs] at r;change _=MO.dO [("sort",.str "disk"),_,_,_] at r;lcg_off
  skip
  lcg_off;rw [gy,if_pos hs];exact .of (.refl _)
 ·have hn:=NM hs;lcg_off;refine Ok.NG hn ?_;lcg_off
  skip
  lcg_off;refine bL.forL j xs (fun k fr m1=>∃z,fr= [some (.obj i),some (.obj m.n),z]/\Ext m m1/\m.n<m1.n/\m1.ob m.n= .list ((T.ks.take k).map .int)) ?_ ?_ ?_ ?_
  ·have a':=((Ext.new m (.list [])).ob i (by exact Tr l)).trans a;have r':=((Ext.new m (.list [])).ob _ l.1).trans r;lcg_off;exact⟨rfl,_,rfl,.new _ _,gA _,bc _ _⟩
  ·intro k fr m1 mL;refine az fun zG=> ?_;obtain⟨z,rfl,x,hn,o⟩:=mL;refine zG ?_;exact(x.ob _ l.2).trans c
  ·intro k v fr m1 e jI J hj;refine az fun zG=> ?_;obtain⟨z,rfl,x,hn,o⟩:=jI;refine zG ?_;refine az fun zG=> ?_;obtain⟨g,hg,L⟩:=F.get e;refine zG ?_;have L1:=L.keep (.of x);lcg_off;refine(ym L1).nl ?_;intro o2 m2 h1 h2 h3 x2;lcg_off;have o':=(x2.ob _ hn).trans o;refine Ok.NI o' h3 ⟨by simp;exact WG hz,Nat.lt_of_lt_of_le hn x2.n⟩ ?_;lcg_off;refine⟨_,rfl,(x.trans x2).oY (dT _),eD hn x2.n, ?_⟩;rw [fK,cW hg,ja];rfl
  ·intro fr m1 fM;refine az fun zG=> ?_;obtain⟨z,rfl,x,hn,o⟩:=fM;refine zG ?_;lcg_off;rw [hx,g_] at o;rw [gy,if_neg hs];exact⟨_,rfl,dT _,hn,o,x⟩
noncomputable def eU(C:d_):List Int:=C.e_.flatMap gy
theorem qI{l:List α}{f:α->List β}{k:Nat}{x:α}(h:l[k]? =some x):(l.take (k+1)).flatMap f=(l.take k).flatMap f++f x:=by rw [cW h,List.flatMap_append];simp
theorem td{l:List α}{f:α->List β}(h:∀x∈l,(f x).length<=100):(l.flatMap f).length<=100*l.length:=by
 induction l with
 |nil=>simp
 |cons a r ih=>
  rw [List.flatMap_cons,ip,oI];have:=ih fun x hx=>h x (List.mem_cons_of_mem _ hx);have:=h a rr;exact WH (by assumption) this
theorem iO(h:T.ks.length<=100):(gy T).length<=100:=by
 unfold gy
 split
 ·simp
 ·exact h
theorem Bp{C:d_}(h:eY m v C)(hz:C.e_.length<=100)(NL:∀T∈C.e_,T.ks.length<=100):Ok (pG.1 [v] m) fun r m'=>xB m m' r ((eU C).map .int):=by
 refine az fun zG=> ?_;obtain⟨i,j,xs,rfl,⟨a,r,c,l⟩,F⟩:=h;refine zG ?_;have hx:=F.len;dsimp only [pG];refine Ok.cps fun Q hq=> ?_;refine Ok.dc (eM rfl) (by keq_hits) ?_;lcg_off
 skip
 lcg_off;refine bL.forL j xs (fun k fr m1=>∃z,fr= [some (.obj i),some (.obj m.n),z]/\Ext m m1/\m.n<m1.n/\m1.ob m.n= .list (((C.e_.take k).flatMap gy).map .int)) ?_ ?_ ?_ ?_
 ·have a':=((Ext.new m (.list [])).ob i (by exact Tr l)).trans a;have r':=((Ext.new m (.list [])).ob _ l.1).trans r;lcg_off;exact⟨rfl,_,rfl,.new _ _,gA _,bc _ _⟩
 ·intro k fr m1 mL;refine az fun zG=> ?_;obtain⟨z,rfl,x,hn,o⟩:=mL;refine zG ?_;exact(x.ob _ l.2).trans c
 ·intro k v fr m1 e jI J hj;refine az fun zG=> ?_;obtain⟨z,rfl,x,hn,o⟩:=jI;refine zG ?_;refine az fun zG=> ?_;obtain⟨T,hg,L⟩:=F.get e;refine zG ?_;have hT:=jB hg;have L1:=L.keep (.of x);lcg_off;refine(sD L1 (NL _ hT)).nl ?_;intro o2 m2 h1 h2 h3 x2;lcg_off;have o':=(x2.ob _ hn).trans o;have b1:=td (l:=C.e_.take k) (f:=gy) fun T h=>iO (NL T (List.mem_of_mem_take h));have b2:(C.e_.take k).length<=100:=by rw [ie];exact WI hz
  have b3:=iO (NL T hT);refine Ok.NI o' h3 ⟨by rw [eW,eW];exact WJ b1 b2 b3,eD hn x2.n⟩ ?_;lcg_off;refine⟨_,rfl,(x.trans x2).oY (dT _),eD hn x2.n, ?_⟩;rw [fK,qI hg,ja]
 ·intro fr m1 fM;refine az fun zG=> ?_;obtain⟨z,rfl,x,hn,o⟩:=fM;refine zG ?_;lcg_off;rw [hx,g_] at o;exact⟨_,rfl,dT _,hn,o,x⟩
end
section
variable {Q:MV->MH->Prop}{m:MH}{i j:Nat}{b:List UInt8}
theorem jz(m:MH):Ok (gw.1 [] m) fun r m'=>xB m m' r [.str "disk",.str "mirror",.str "raidz"]:=by
 dsimp only [gw];refine Ok.cps fun Q hq=> ?_;refine Ok.dc (eM rfl) (by keq_hits) ?_;lcg_off;exact .of (.refl _)
theorem Ok.index{k:Str}{xs:List MV}{ns:List Str}(o:m.ob i= .list xs)(e:strsOf xs=some ns)(f:zU k ns=some j)(h:ns.length<=100000)(q:Q (.int (j:Int)) m):Ok (JF [.obj i,.str k] m) Q:=
 .of ((cC o).trans ((aV e).trans ((aV f).trans (if_pos h)))) q
theorem Cd{s:Nat}(h:s<3):zU (gH s) [("disk":Str),"mirror","raidz"]=some s:=(bR rfl:∀s<3,zU (gH s) [("disk":Str),"mirror","raidz"]=some s) s h
theorem dH.NN{m':MH}(S:dH m i j b)(x:Ext m m'):dH m' i j b:=S.keep (.of x) ((x.ob j S.l.2).trans S.o)
theorem f_{k:Nat}{n:Int}(S:dH m i j b)(h0:0<=n)(h1:n<256 ^ k)(hk:k<=8)(hb:b.length<=5000)
  (q:∀m',dH m' i j (b++bO k n)->fj j m m'->NK m m'->Q .none m'):Ok (bJ.1 [.obj i,.int n,.int (k:Int)] m) Q:=
 Ok.ex (oW S h0 h1 hk hb) fun m' ⟨x,o⟩=>q m' (S.keep x o) x (S.nk x)
noncomputable def pM(g:Int):List UInt8:=bO 1 0++(bO 4 g++(bO 1 0++bO 1 0))
noncomputable def il(T:Top):List UInt8:=bO 1 T.s++(bO 4 T.g++(bO 1 T.p++(bO 1 T.ks.length++T.ks.flatMap pM)))
noncomputable def gm(C:d_):List UInt8:=bO 4 1953654117++(bO 1 1++((bO 1 C.name.length++C.name.map fun c=>c.toUInt8)++(bO 8 C.gR++(bO 4 C.ed++(bO 1 C.e_.length++C.e_.flatMap il)))))
theorem Ak(g:Int):(pM g).length=7:=by unfold pM;simp [aw]
theorem uC{α β:Type}{l:List α}{f:α->List β}{c:Nat}(h:∀x∈l,(f x).length=c):(l.flatMap f).length=c*l.length:=by
 induction l with
 |nil=>simp
 |cons a r ih=>
  rw [List.flatMap_cons,ip,oI,ih fun x hx=>h x (List.mem_cons_of_mem _ hx),h a rr,Nat.mul_succ];exact YJ
theorem qb(T:Top):(il T).length=7+7*T.ks.length:=by
 unfold il;simp only [List.length_append,aw];rw [uC (c:=7) fun x ψ=>Ak x];exact YK
theorem yn{v:MV}{g:Int}(S:dH m i j b)(h:iu m v g)(hg:0<=g/\g<2 ^ 32)(hb:b.length<=4000):
  Ok (pH.1 [.obj i,v] m) fun r m'=>r= .none/\dH m' i j (b++pM g)/\fj j m m':=by
 refine az fun zG=> ?_;obtain⟨i1,j1,rfl,N⟩:=h;refine zG ?_;dsimp only [pH];refine Ok.cps fun Q hq=> ?_;refine Ok.dc (eM rfl) (by keq_hits) ?_;refine az fun zG=> ?_;obtain⟨a0,r0,_,_⟩:=id S;refine zG ?_;lcg_off;refine(jz m).nl ?_;intro o1 m1 _ _ ho x1;have N1:=(NK.of x1).nd N;refine az fun zG=> ?_;obtain⟨a,r,c,l⟩:=id N1;refine zG ?_;have S1:=S.NN x1;lcg_off;refine Ok.index ho rfl (Cd (s:=0) (by decide)) (by decide) ?_;lcg_off;refine f_ (k:=1) S1 (bR rfl) (bR rfl) (bR rfl) (by exact lk hb) fun m2 S2 x2 k2=> ?_;have N2:=k2.nd N1;refine az fun zG=> ?_;obtain⟨a,r,c,l⟩:=id N2;refine zG ?_;refine az fun zG=> ?_;obtain⟨a0,r0,_,_⟩:=id S2;refine zG ?_;have z2:=S2.o;lcg_off;refine f_ (k:=4) S2 (by exact Pk hg) (by exact Pl hg) (of_decide_eq_true rfl) (by simp [aw];exact YL hb) fun m3 S3 x3 k3=> ?_;have N3:=k3.nd N2;refine az fun zG=> ?_;obtain⟨a,r,c,l⟩:=id N3;refine zG ?_;refine az fun zG=> ?_;obtain⟨a0,r0,_,_⟩:=id S3;refine zG ?_;lcg_off;refine f_ (k:=1) S3 (of_decide_eq_true rfl) (of_decide_eq_true rfl) (of_decide_eq_true rfl) (by simp [aw];exact YM hb) fun m4 S4 x4 k4=> ?_;have N4:=k4.nd N3;refine az fun zG=> ?_;obtain⟨a,r,c,l⟩:=id N4;refine zG ?_;refine az fun zG=> ?_;obtain⟨a0,r0,_,_⟩:=id S4;refine zG ?_;lcg_off;refine Ok.xA c (by simp) ?_;lcg_off;refine f_ (k:=1) S4 (by decide) (by decide) (by decide) (by simp [aw];exact YN hb) fun m5 S5 x5 k5=> ?_;have N5:=k5.nd N4;refine az fun zG=> ?_;obtain⟨a,r,c,l⟩:=id N5;refine zG ?_;lcg_off;refine bL.forL j1 [] (fun k fr m1=>m1=m5) ?_ ?_ ?_ ?_
 ·lcg_off;exact⟨rfl,rfl⟩
 ·rintro k fr _ rfl;exact c
 ·intro k v fr m e;exact absurd e (by simp)
 ·rintro fr _ rfl;lcg_off;refine⟨rfl, ?_,((((fj.of x1).trans x2).trans x3).trans x4).trans x5⟩;unfold pM
  simpa only [List.append_assoc,List.length_nil,Int.ofNat_zero] using S5
end
section
variable {j:Nat}{m:MH}{v:MV}{T:Top}
structure TopOK (T:Top):Prop where
 s:T.s<3
 g:0<=T.g/\T.g<2 ^ 32
 p:T.p<256
 ks:∀g∈T.ks,0<=g/\g<2 ^ 32
 l:T.ks.length<=10
theorem fj.refl(m:MH):fj j m m:=⟨dT _,fun ψ ψ ψ=>rfl⟩
theorem Al{i:Nat}{b:List UInt8}(S:dH m i j b)(h:mK m v T)(hT:TopOK T)(hb:b.length<=3000):
  Ok (pI.1 [.obj i,v] m) fun r m'=>r= .none/\dH m' i j (b++il T)/\fj j m m':=by
 refine az fun zG=> ?_;obtain⟨i1,j1,xs,rfl,N,F⟩:=h;refine zG ?_;have hx:=F.len;have hl:=hT.l;dsimp only [pI];refine Ok.cps fun Q hq=> ?_;refine Ok.dc (eM rfl) (by keq_hits) ?_;refine az fun zG=> ?_;obtain⟨a0,r0,_,_⟩:=id S;refine zG ?_;lcg_off;refine(jz m).nl ?_;intro o1 m1 _ _ ho x1;have N1:=(NK.of x1).nd N;refine az fun zG=> ?_;obtain⟨a,r,c,l⟩:=id N1;refine zG ?_;have S1:=S.NN x1;lcg_off;refine Ok.index ho rfl (Cd hT.s) (by decide) ?_;lcg_off;refine f_ (k:=1) S1 (by exact O2) (by have:=hT.s;exact RD this) (by decide) (by exact lk hb) fun m2 S2 x2 k2=> ?_;have N2:=k2.nd N1;refine az fun zG=> ?_;obtain⟨a,r,c,l⟩:=id N2;refine zG ?_;refine az fun zG=> ?_;obtain⟨a0,r0,_,_⟩:=id S2;refine zG ?_;have z2:=S2.o;lcg_off;refine f_ (k:=4) S2 hT.g.1 (by have:=hT.g.2;exact TB this) (by decide) (by simp [aw];exact ZN hb) fun m3 S3 x3 k3=> ?_;have N3:=k3.nd N2;refine az fun zG=> ?_;obtain⟨a,r,c,l⟩:=id N3;refine zG ?_;refine az fun zG=> ?_;obtain⟨a0,r0,_,_⟩:=id S3;refine zG ?_;lcg_off;refine f_ (k:=1) S3 (by exact O2) (by have:=hT.p;exact RE this) (by decide) (by simp [aw];exact ZO hb) fun m4 S4 x4 k4=> ?_;have N4:=k4.nd N3;refine az fun zG=> ?_;obtain⟨a,r,c,l⟩:=id N4;refine zG ?_;refine az fun zG=> ?_;obtain⟨a0,r0,_,_⟩:=id S4;refine zG ?_;lcg_off;refine Ok.xA c (by exact RM hx hl) ?_;lcg_off;refine f_ (k:=1) S4 (by exact O2) (by exact RN hx hl) (by decide) (by simp [aw];exact ZP hb) fun m5 S5 x5 k5=> ?_;have N5:=k5.nd N4;refine az fun zG=> ?_;obtain⟨a,r,c,l⟩:=id N5;refine zG ?_;have X5:=((((fj.of x1).trans x2).trans x3).trans x4).trans x5;have F5:=F.mono fun ψ ψ a=>iu.keep a ((((NK.of x1).trans k2).trans k3).trans (k4.trans k5));lcg_off;generalize hB:b++bO 1 _++_++_++_=B at S5;have Qx:B.length=b.length+7:=by rw [<- hB];simp [aw]
 refine bL.forL j1 xs (fun k fr m1=>∃z,fr= [some (.obj i),some (.obj i1),z]/\fj j m5 m1/\NK m5 m1/\dH m1 i j (B++(T.ks.take k).flatMap pM)) ?_ ?_ ?_ ?_
 ·lcg_off;exact⟨rfl,_,rfl,.refl _,.refl _,by simpa using S5⟩
 ·intro k fr m6 mL;refine az fun zG=> ?_;obtain⟨z,rfl,x,n,S6⟩:=mL;refine zG ?_;exact(n.nd N5).c
 ·intro k v fr m6 e jI J hj;refine az fun zG=> ?_;obtain⟨z,rfl,x,n,S6⟩:=jI;refine zG ?_;refine az fun zG=> ?_;obtain⟨g,hg,L⟩:=F5.get e;refine zG ?_;have L1:=L.keep n;lcg_off;have rP:=uC (l:=T.ks.take k) (f:=pM) (c:=7) fun x ψ=>Ak x;have hk:(T.ks.take k).length<=10:=by rw [ie];exact Ts hl
  refine(yn S6 L1 (hT.ks _ (jB hg)) (by rw [ip,rP];exact ZQ hb Qx hk)).q2 ?_;intro m7 S7 x7;lcg_off;refine⟨_,rfl,x.trans x7,n.trans (S6.nk x7), ?_⟩;rw [qI hg, <- List.append_assoc];exact S7
 ·intro fr m6 fM;refine az fun zG=> ?_;obtain⟨z,rfl,x,n,S6⟩:=fM;refine zG ?_;lcg_off;refine⟨rfl, ?_,X5.trans x⟩;rw [hx,g_, <- hB] at S6;unfold il;rw [<- hx]
  simpa only [List.append_assoc] using S6
structure ConfOK (C:d_):Prop where
 nm:∀c∈C.name,32<=c/\c<127
 nl:C.name.length<=50
 g:0<=C.gR/\C.gR<2 ^ 60
 e:0<=C.ed/\C.ed<2 ^ 32
 t:∀T∈C.e_,TopOK T
 l:C.e_.length<=10
theorem An(h:TopOK T):(il T).length<=77:=by rw [qb];have:=h.l;exact ZR this
theorem Ao{α β:Type}{l:List α}{f:α->List β}{c:Nat}(h:∀x∈l,(f x).length<=c):(l.flatMap f).length<=c*l.length:=by
 induction l with
 |nil=>simp
 |cons a r ih=>
  rw [List.flatMap_cons,ip,oI,Nat.mul_succ];have:=ih fun x hx=>h x (List.mem_cons_of_mem _ hx);have:=h a rr;exact ZS (by assumption) this
theorem oZ{C:d_}(h:eY m v C)(hC:ConfOK C):Ok (iW.1 [v] m) fun r m'=>r= .bytes (gm C)/\Ext m m':=by
 refine az fun zG=> ?_;obtain⟨i1,j1,xs,rfl,N,F⟩:=h;refine zG ?_;have hx:=F.len;have hl:=hC.l;have DI:=hC.nl;dsimp only [iW];refine Ok.cps fun Q hq=> ?_;refine Ok.dc (eM rfl) (by keq_hits) ?_;lcg_off;refine Ok.ex (IB m) ?_;rintro m0 ⟨x0,S0⟩;have N0:=(NK.of x0).cf N;refine az fun zG=> ?_;obtain⟨a0,r0,_,_⟩:=id S0;refine zG ?_;lcg_off;refine f_ (k:=4) S0 (of_decide_eq_true rfl) (of_decide_eq_true rfl) (of_decide_eq_true rfl) (by simp) fun m1 S1 x1 k1=> ?_;have N1:=k1.cf N0;refine az fun zG=> ?_;obtain⟨a0,r0,_,_⟩:=id S1;refine zG ?_;lcg_off;refine f_ (k:=1) S1 (of_decide_eq_true rfl) (of_decide_eq_true rfl) (of_decide_eq_true rfl) (by simp [aw]) fun m2 S2 x2 k2=> ?_;have N2:=k2.cf N1;refine az fun zG=> ?_;obtain⟨a0,r0,_,_⟩:=id S2;refine zG ?_;refine az fun zG=> ?_;obtain⟨a,r,c,l⟩:=id N2;refine zG ?_;lcg_off;refine Ok.ex (yl S2 hC.nm (by exact lk DI) (by simp [aw])) fun m3 hq=> ?_;obtain⟨x3,o3⟩:=hq;have S3:=S2.keep x3 o3;have k3:=S2.nk x3;have N3:=k3.cf N2;refine az fun zG=> ?_;obtain⟨a0,r0,_,_⟩:=id S3;refine zG ?_;refine az fun zG=> ?_;obtain⟨a,r,c,l⟩:=id N3;refine zG ?_;lcg_off;refine f_ (k:=8) S3 hC.g.1 (by have:=hC.g.2;exact ZT this) (of_decide_eq_true rfl) (by simp [aw];exact ZU DI) fun m4 S4 x4 k4=> ?_;have N4:=k4.cf N3;refine az fun zG=> ?_;obtain⟨a0,r0,_,_⟩:=id S4;refine zG ?_;refine az fun zG=> ?_;obtain⟨a,r,c,l⟩:=id N4;refine zG ?_;lcg_off;refine f_ (k:=4) S4 hC.e.1 (by have:=hC.e.2;exact TB this) (by decide) (by simp [aw];exact ZV DI) fun m5 S5 x5 k5=> ?_;have N5:=k5.cf N4;refine az fun zG=> ?_;obtain⟨a0,r0,_,_⟩:=id S5;refine zG ?_;refine az fun zG=> ?_;obtain⟨a,r,c,l⟩:=id N5;refine zG ?_;lcg_off;refine Ok.xA c (by exact RM hx hl) ?_;lcg_off;refine f_ (k:=1) S5 (by exact O2) (by exact RN hx hl) (by decide) (by simp [aw];exact ZW DI) fun m6 S6 x6 k6=> ?_;have N6:=k6.cf N5;refine az fun zG=> ?_;obtain⟨a,r,c,l⟩:=id N6;refine zG ?_;have X6:=((((x1.trans x2).trans x3).trans x4).trans x5).trans x6;have F6:=F.mono fun ψ ψ a=>mK.keep a ((NK.of x0).trans ((k1.trans k2).trans (k3.trans (k4.trans (k5.trans k6)))));lcg_off;generalize hB:_++bO 1 (xs.length:Int)=B at S6;have Qx:B.length<=200:=by rw [<- hB];simp [aw];exact ZX DI
 refine bL.forL j1 xs (fun k fr m1=>∃z,fr= [some (.obj i1),some (.obj m.n),z]/\fj (m.n+2) m6 m1/\NK m6 m1/\dH m1 m.n (m.n+2) (B++(C.e_.take k).flatMap il)) ?_ ?_ ?_ ?_
 ·lcg_off;exact⟨rfl,_,rfl,.refl _,.refl _,by simpa using S6⟩
 ·intro k fr m7 mL;refine az fun zG=> ?_;obtain⟨z,rfl,x,n,S7⟩:=mL;refine zG ?_;exact(n.cf N6).c
 ·intro k v fr m7 e jI J hj;refine az fun zG=> ?_;obtain⟨z,rfl,x,n,S7⟩:=jI;refine zG ?_;refine az fun zG=> ?_;obtain⟨g,hg,L⟩:=F6.get e;refine zG ?_;have L1:=L.keep n;lcg_off;have rP:=Ao (l:=C.e_.take k) (f:=il) (c:=77) fun x hx=>An (hC.t _ (List.mem_of_mem_take hx));have hk:(C.e_.take k).length<=10:=by rw [ie];exact Ts hl
  refine(Al S7 L1 (hC.t _ (jB hg)) (by rw [ip];exact ZY Qx rP hk)).q2 ?_;intro m8 S8 x8;lcg_off;refine⟨_,rfl,x.trans x8,n.trans (S7.nk x8), ?_⟩;rw [qI hg, <- List.append_assoc];exact S8
 ·intro fr m7 fM;refine az fun zG=> ?_;obtain⟨z,rfl,x,n,S7⟩:=fM;refine zG ?_;rw [hx,g_] at S7;have rP:=Ao (l:=C.e_) (f:=il) (c:=77) fun x hx=>An (hC.t _ hx);have hcf:B++C.e_.flatMap il=gm C:=by
   rw [<- hB,hx];unfold gm;simp only [List.append_assoc,List.nil_append]
  refine az fun zG=> ?_;obtain⟨a0,r0,_,_⟩:=id S7;refine zG ?_;lcg_off;refine Ok.of (wJ S7 (by rw [ip];exact ZZ hl Qx rP)) ?_;lcg_off;refine⟨by rw [hcf],⟨jb x0.n (jb X6.n x.n),fun t ht=> ?_⟩⟩;have h0:=x0.n;have h6:=X6.n;have hS:=S0.l;exact(x.ob t (by exact Z0 (by assumption) ht h6) (by exact RO ht)).trans ((X6.ob t (by exact Z1 (by assumption) ht) (by exact RO ht)).trans (x0.ob t ht))
end
section
variable {is:List Nat}{xs:List MV}{fr el:av}{m:MH}{Q:eG->av->MH->Prop}{i k:Nat}{b r:List UInt8}{g:Int}
theorem bL.NP(h:xs.length=is.length)(hf:sq (iR fr is xs) el)(q:Q .next el m):bL (SM.unpack is (.tup xs) fr m) Q:=bL.unpack h (by unfold sq at hf;rw [hf];exact q)
theorem bL.K1(h:xs.length=is.length)(hf:sq (iR fr is xs.reverse) el)(q:Q .next el m):bL (SM.si is (.tup xs) fr m) Q:=bL.si h (by unfold sq at hf;rw [hf];exact q)
theorem hV{sz:Nat}{n:Int}{Q:MV->MH->Prop}(S:fv m i b k)(hd:b.drop k=bO sz n++r)(h0:0<=n)(h1:n<256 ^ sz)(h2:n<2 ^ 60)(hs:0<sz/\sz<=8)(hb:b.length<=1000)
  (q:∀m',fv m' i b (k+sz)->b.drop (k+sz)=r->fj (i+1) m m'->NK m m'->Q (.int n) m'):Ok (bq.1 [.obj i,.int (sz:Int)] m) Q:=by
 have hlen:b.length-k=sz+r.length:=by rw [<- List.length_drop,hd];simp [aw]
 have t1:(b.drop k).take sz=bO sz n:=by rw [hd,List.take_append_of_le_length (by rw [aw];exact Ka),qP (by rw [aw];exact Ka)]
 have t2:b.drop (k+sz)=r:=by rw [<- List.drop_drop,hd,List.drop_append_of_le_length (by rw [aw];exact Ka),List.drop_of_length_le (by rw [aw];exact Ka),List.nil_append]
 have hn:numOf ((b.drop k).take sz)=n:=by rw [t1];exact fy h0 h1
 have:=mT S (n:=sz) (by exact Zw hs hlen) hb hs.2 (by rw [hn];exact Zx h2);rw [hn] at this;exact Ok.ex this fun m' ⟨x,S'⟩=>q m' S' t2 x (S.nk x)
theorem NQ(m:MH):vr (.tup [.int 0,.int 0]) (.tup [.int 0,.int 0]) m=some (true,m):=by kernel_rfl!
def jj(n:Nat)(m:MH)(v:MV)(g:Int):Prop:=∃i j,v= .obj i/\vI m i j "disk" g 0 []/\n<=i/\n<=j
def lb(n:Nat)(m:MH)(v:MV)(T:Top):Prop:=∃i j xs,v= .obj i/\vI m i j (gH T.s) T.g (T.p:Int) xs/\F2 (jj n m) xs T.ks/\n<=i/\n<=j
def jk(n:Nat)(m:MH)(v:MV)(C:d_):Prop:=∃i j xs,v= .obj i/\Gk m i j (strOf C.name) C.gR C.ed xs/\F2 (lb n m) xs C.e_/\n<=i/\n<=j
section
variable {n n':Nat}{m m':MH}{v:MV}
theorem jj.up(h:jj n m v g)(x:NK m m')(hn:n'<=n):jj n' m' v g:=h.imp fun ψ=>Exists.imp fun ψ=>And.imp_right fun h=>⟨x.nd h.1,jb hn h.2.1,jb hn h.2.2⟩
theorem lb.up{g:Top}(h:lb n m v g)(x:NK m m')(hn:n'<=n):lb n' m' v g:=h.imp fun ψ=>Exists.imp fun ψ=>Exists.imp fun ψ=>And.imp_right fun h=>⟨x.nd h.1,h.2.1.mono fun ψ ψ c=>c.up x hn,jb hn h.2.2.1,jb hn h.2.2.2⟩
theorem jk.up{g:d_}(h:jk n m v g)(x:NK m m')(hn:n'<=n):jk n' m' v g:=h.imp fun ψ=>Exists.imp fun ψ=>Exists.imp fun ψ=>And.imp_right fun h=>⟨x.cf h.1,h.2.1.mono fun ψ ψ c=>c.up x hn,jb hn h.2.2.1,jb hn h.2.2.2⟩
theorem jj.to(h:jj n m v g):iu m v g:=h.imp fun ψ=>Exists.imp fun ψ=>And.imp_right And.left
theorem lb.to{g:Top}(h:lb n m v g):mK m v g:=h.imp fun ψ=>Exists.imp fun ψ=>Exists.imp fun ψ=>And.imp_right fun h=>⟨h.1,h.2.1.mono fun ψ ψ c=>c.to⟩
theorem jk.to{g:d_}(h:jk n m v g):eY m v g:=h.imp fun ψ=>Exists.imp fun ψ=>Exists.imp fun ψ=>And.imp_right fun h=>⟨h.1,h.2.1.mono fun ψ ψ c=>c.to⟩
end
theorem wL(S:fv m i b k)(hd:b.drop k=pM g++r)(hg:0<=g/\g<2 ^ 32)(hb:b.length<=1000):
  Ok (nX.1 [.obj i,.int 1] m) fun v m'=>jj m.n m' v g/\fj (i+1) m m'/\NK m m'/\fv m' i b (k+7)/\b.drop (k+7)=r:=by
 dsimp only [nX];refine Ok.cps fun Q hq=> ?_;refine Ok.dc (eM rfl) (by keq_hits) ?_;unfold pM at hd;simp only [List.append_assoc] at hd;refine az fun zG=> ?_;obtain⟨a0,r0,_⟩:=id S;refine zG ?_;lcg_off;refine hV (sz:=1) S hd (by decide) (by decide) (by decide) (by decide) hb fun m1 S1 d1 x1 k1=> ?_;refine az fun zG=> ?_;obtain⟨a0,r0,_⟩:=id S1;refine zG ?_;lcg_off;refine hV (sz:=4) S1 d1 (by exact Pk hg) (by exact Pl hg) (by exact Tz hg) (by decide) hb fun m2 S2 d2 x2 k2=> ?_;refine az fun zG=> ?_;obtain⟨a0,r0,_⟩:=id S2;refine zG ?_;lcg_off;refine hV (sz:=1) S2 d2 (by decide) (by decide) (by decide) (by decide) hb fun m3 S3 d3 x3 k3=> ?_;refine az fun zG=> ?_;obtain⟨a0,r0,_⟩:=id S3;refine zG ?_;lcg_off;refine hV (sz:=1) S3 d3 (by decide) (by decide) (by decide) (by decide) hb fun m4 S4 d4 x4 k4=> ?_;refine az fun zG=> ?_;obtain⟨a0,r0,_⟩:=id S4;refine zG ?_;lcg_off;refine(jz m4).nl ?_;intro o5 m5 _ _ h5 x5;lcg_off;refine Ok.of (a:= .int 3) (by show uu m5 (m5.ob _)=_;rw [h5];rfl) ?_;lcg_off;refine(jz m5).nl ?_;intro o6 m6 _ _ h6 x6;lcg_off;refine Ok.qa h6 (bR rfl) (v:= .str "disk") rfl ?_;lcg_off;refine Ok.of (NQ _) ?_;lcg_off;have S6:=(S4.keep x5).keep x6;refine Ok.DT 0 (fun ψ=>True) (fun k ys m1=>m1=m6/\ys= []) (bR rfl) ?_ trivial ?_ ?_
 ·lcg_off;refine Ok.of (a:= .oz 0 0) rfl ?_;lcg_off;exact⟨rfl,rfl,rfl⟩
 ·intro k ys fr m h
  omega
 ·rintro ys _ ⟨rfl,rfl⟩;lcg_off;refine Ok.ex (qH (bc _ _) (Nat.lt_succ_self _) (by simp)) fun m7 hq=> ?_;obtain⟨x7,N7⟩:=hq;lcg_off;have E:=(((fj.of (j:=i+1) (x5.trans x6)).trans (.of (.new _ (.list [])))).trans (.of x7));have X:=(((x1.trans x2).trans x3).trans x4).trans E;have hX:=X.n;have K3:=((x1.trans x2).trans x3).n;have wM:=x4.n;have hn5:=(x5.trans x6).n;exact⟨⟨_,_,rfl,N7,by rw [et];omega,by rw [et];omega⟩,X,((k1.trans k2).trans (k3.trans k4)).trans (S4.nk E),((S6.keep (.new _ _)).keep x7),d4⟩
structure JR (T:Top):Prop extends TopOK T where
 r:(T.s=0/\T.ks= []/\T.p=0)\/(T.s=1/\2<=T.ks.length/\T.p=0)\/(T.s=2/\1<=T.p/\T.p<=3/\T.p<T.ks.length)
theorem yo{T:Top}(S:fv m i b k)(hd:b.drop k=il T++r)(hT:JR T)(hb:b.length<=1000):
  Ok (nY.1 [.obj i,.int 0] m) fun v m'=>lb m.n m' v T/\fj (i+1) m m'/\NK m m'/\fv m' i b (k+(il T).length)/\b.drop (k+(il T).length)=r:=by
 have hl:=hT.l;have Vf:=hT.s;have hg:=hT.g;have hp:=hT.p;dsimp only [nY];refine Ok.cps fun Q hq=> ?_;refine Ok.dc (eM rfl) (by keq_hits) ?_;unfold il at hd;simp only [List.append_assoc] at hd;refine az fun zG=> ?_;obtain⟨a0,r0,_⟩:=id S;refine zG ?_;lcg_off;refine hV (sz:=1) S hd (by exact O2) (by exact RD Vf) (by exact Zy Vf) (by decide) hb fun m1 S1 d1 x1 k1=> ?_;refine az fun zG=> ?_;obtain⟨a0,r0,_⟩:=id S1;refine zG ?_;lcg_off;refine hV (sz:=4) S1 d1 (by exact Pk hg) (by exact Pl hg) (by exact Tz hg) (by decide) hb fun m2 S2 d2 x2 k2=> ?_;refine az fun zG=> ?_;obtain⟨a0,r0,_⟩:=id S2;refine zG ?_;lcg_off;refine hV (sz:=1) S2 d2 (by exact O2) (by exact RE hp) (by exact Zz hp) (by decide) hb fun m3 S3 d3 x3 k3=> ?_;refine az fun zG=> ?_;obtain⟨a0,r0,_⟩:=id S3;refine zG ?_;lcg_off;refine hV (sz:=1) S3 d3 (by exact O2) (by exact Ru hl) (by exact Rv hl) (by decide) hb fun m4 S4 d4 x4 k4=> ?_;refine az fun zG=> ?_;obtain⟨a0,r0,_⟩:=id S4;refine zG ?_;lcg_src;refine bL.test (Ok.mono (Q:=fun v m'=>v=false/\Ext m4 m') ?_ ?_)
 ·lcg_off;refine(jz m4).nl ?_;intro o5 m5 _ _ h5 x5;lcg_off;refine Ok.of (a:= .int 3) (by show uu m5 (m5.ob _)=_;rw [h5];rfl) ?_
  by_cases hz:T.s=0
  ·lcg_off;exact⟨rfl,x5⟩
  ·lcg_off;exact⟨rfl,x5⟩
 rintro _ m5 ⟨rfl,x5⟩;lcg_src;refine(jz m5).nl ?_;intro o6 m6 _ _ h6 x6;lcg_src;refine Ok.qa h6 (by exact Cu Vf) (v:= .str (gH T.s)) ?_ ?_
 ·rcases hT.r with⟨h,_⟩|⟨h,_⟩|⟨h,_⟩ <;> rw [h] <;> rfl
 lcg_src;refine bL.test (Ok.mono (Q:=fun v m'=>v=false/\m'=m6) ?_ ?_)
 ·rcases hT.r with⟨h,hk,K4⟩|⟨h,hk,K4⟩|⟨h,hk,K4⟩
  ·have e:gH T.s="disk":=by rw [h];rfl
   rw [e,hk,K4];lcg_off;refine Ok.of (NQ _) ?_;lcg_off;exact⟨rfl,rfl⟩
  ·have e:gH T.s="mirror":=by rw [h];rfl
   rw [e];lcg_off;exact⟨rfl,rfl⟩
  ·have e:gH T.s="raidz":=by rw [h];rfl
   rw [e];lcg_off;exact⟨rfl,rfl⟩
 rintro _ m6' ⟨rfl,e6⟩;cases e6;lcg_src;refine bL.test (Ok.mono (Q:=fun v m'=>v=false/\m'=m6) ?_ ?_)
 ·rcases hT.r with⟨h,hk,K4⟩|⟨h,hk,K4⟩|⟨h,hk,K4,hp3⟩
  ·have e:gH T.s="disk":=by rw [h];rfl
   rw [e];lcg_off;exact⟨rfl,rfl⟩
  ·have e:gH T.s="mirror":=by rw [h];rfl
   rw [e];lcg_off;exact⟨rfl,rfl⟩
  ·have e:gH T.s="raidz":=by rw [h];rfl
   rw [e];lcg_off;refine Ok.of (a:= .int (if((T.ks.length:Int)-1)<3 then((T.ks.length:Int)-1) else 3)) rfl ?_;refine Ok.SI (by split <;> omega) ?_;lcg_off;exact⟨rfl,rfl⟩
 rintro _ m6' ⟨rfl,e6⟩;cases e6;have S6:=(S4.keep x5).keep x6;have k6:=((k1.trans k2).trans (k3.trans k4)).trans ((NK.of x5).trans (.of x6));have X6:=(((x1.trans x2).trans x3).trans x4).trans (.of (x5.trans x6));obtain⟨k0,hk0⟩:∃k0,k0=k:=⟨_,rfl⟩;lcg_off;refine Ok.DT T.ks.length (fun fr=>∃o,fr= [o,some (.obj i),some (.int 0)]) (fun k ys m1=>fj (i+1) m m1/\NK m m1/\∃at',at'=k0+7+7*k/\fv m1 i b at'/\b.drop at'=(T.ks.drop k).flatMap pM++r/\F2 (jj m.n m1) ys (T.ks.take k)) (by exact lk hl) ?_ ⟨_,rfl⟩ ?_ ?_
 ·lcg_off;refine Ok.of (a:= .oz 0 T.ks.length) rfl ?_;lcg_off;exact⟨rfl,X6,k6,_,by exact ZA hk0,S6,d4,.nil⟩
 ·intro k' ys fr m7 hk jI gP U hj;refine az fun zG=> ?_;obtain⟨X7,k7,at',yf,S7,d7,F7⟩:=jI;obtain⟨o,rfl⟩:=gP;refine zG ?_;lcg_off;obtain⟨g,wN⟩:∃g,T.ks[k']? =some g:=⟨_,iP hk⟩;have Vg:T.ks.drop k'=g::T.ks.drop (k'+1):=by
   rw [List.drop_eq_getElem_cons hk];rw [iP hk] at wN
   injection wN with wN
   rw [wN]
  rw [Vg,List.flatMap_cons,List.append_assoc] at d7;refine(wL S7 d7 (hT.ks _ (jB wN)) hb).mono ?_;intro v m8 fM;refine az fun zG=> ?_;obtain⟨L8,x8,k8,S8,d8⟩:=fM;refine zG ?_;lcg_off;exact⟨⟨_,rfl⟩,X7.trans x8,k7.trans k8,_,by exact ZC yf,S8,d8,by rw [cW wN];exact(F7.mono fun ψ ψ a=>a.up k8 (dT _)).snoc (L8.up (.refl _) X7.n)⟩
 ·intro ys m7 fM;refine az fun zG=> ?_;obtain⟨X7,k7,at',yf,S7,d7,F7⟩:=fM;refine zG ?_;rw [g_] at F7;rw [List.drop_length,List.flatMap_nil,List.nil_append] at d7;lcg_off;refine Ok.ex (qH (bc _ _) (gA _) (by rw [F7.len];exact Pc hl)) fun m8 hq=> ?_;obtain⟨x8,N8⟩:=hq;lcg_off;have e7:=(Ext.new m7 (.list ys)).trans x8;have aer:k+(il T).length=at':=by rw [qb];exact ZD hk0 yf
  rw [aer];have hX7:=X7.n;exact⟨⟨_,_,_,rfl,N8,F7.mono fun ψ ψ a=>a.up (.of e7) (dT _),by rw [et];exact O72 hX7,by rw [et];exact ZE hX7⟩,X7.trans (.of e7),k7.trans (.of e7),S7.keep e7,d7⟩
end
section
variable {C:Addr}{xs:List MV}{m:MH}{Q:MV->MH->Prop}{i:Nat}
theorem Ok.new{ci:List MV->MM MV}(h:Ok (ci (.obj m.n::xs) ((m.new (.inst C)).new (.dO []))) fun v m'=>v= .none/\Q (.obj m.n) m'):Ok (Jo C ci xs m) Q:=by
 refine az fun zG=> ?_;obtain⟨v,m',e,rfl,q⟩:=h;refine zG ?_;exact⟨_,m',so e,q⟩
theorem Ok.gp{QU:Unit->MH->Prop}{cs:List Addr}{k:Str}{fs fs':List (Str×MV)}{x:MV}(a:m.ob i= .inst C)(r:m.ob (i+1)= .dO fs)(hC:C∈cs)(hi:i<m.n)(hf:fs.length<=100)(e:u3 k x fs=fs')
  (q:∀m',m'.ob i= .inst C->m'.ob (i+1)= .dO fs'->m'.n=m.n->(∀t,t≠i+1->m'.ob t=m.ob t)->QU () m'):Ok (pW cs k (.obj i) x m) QU:=
 Ok.set a r hC hi hf (q _ ((cc (by exact O8)).trans a) (by rw [fK,e]) rfl fun t h=>cc h)
theorem Ok.lst(o:m.ob i= .list xs)(h:xs.length<=100000)(q:Q (.obj m.n) (m.new (.list xs))):Ok (DA (.obj i) m) Q:= .of ((cC o).trans (if_pos h)) q
theorem vJ{nm:Str}{g e:Int}{c:Nat}(hc:m.ob c= .list xs)(fY:c<m.n)(hz:xs.length<=100000):
  Ok (uA.1 [.str nm,.int g,.obj c,.int e] m) fun v m'=>v= .obj m.n/\Ext m m'/\Gk m' m.n (m.n+2) nm g e xs:=by
 refine Ok.new ?_;obtain⟨m0,h0⟩:∃m0,m0=(m.new (.inst 254)).new (.dO []):=⟨_,rfl⟩;rw [<- h0];have n0:m0.n=m.n+2:=by rw [h0];rfl
 have a0:m0.ob m.n= .inst 254:=by rw [h0,cU (by rw [et];exact Cv)];exact bc _ _
 have r0:m0.ob (m.n+1)= .dO []:=by rw [h0];exact bc (m.new (.inst 254)) _
 have o0:∀t,t<m.n->m0.ob t=m.ob t:=fun t ht=>by rw [h0,cU (by rw [et];exact J8 ht),cU ht]
 dsimp only [q_];refine Ok.cps fun Q hq=> ?_;refine Ok.dc (eM rfl) (by keq_hits) ?_;lcg_off;refine Ok.gp a0 r0 (by decide) (by exact Ey n0) (i9 rfl) rfl fun m1 a1 r1 n1 o1=> ?_;lcg_off;refine Ok.gp a1 r1 (bR rfl) (by exact Tv n0 n1) (i9 rfl) rfl fun m2 a2 r2 n2 o2=> ?_;lcg_off;refine Ok.lst (i:=c) (by rw [o2 _ (by exact O1 fY),o1 _ (by exact O1 fY),o0 _ fY];exact hc) hz ?_;have a3:=(cU (m:=m2) (o:= .list xs) (i:=m.n) (by exact Rk n0 n1 n2)).trans a2;have r3:=(cU (m:=m2) (o:= .list xs) (i:=m.n+1) (by exact Y2 n0 n1 n2)).trans r2;lcg_off;refine Ok.gp a3 r3 (by decide) (by rw [et];exact Y3 n0 n1 n2) (i9 rfl) rfl fun m3 a3 r3 n3 o3=> ?_;lcg_off;rw [et] at n3;refine Ok.gp a3 r3 (by decide) (by exact Y4 n0 n1 n2 n3) (i9 rfl) rfl fun m4 a4 r4 n4 o4=> ?_;lcg_off;refine⟨rfl,rfl,⟨by exact Y5 n0 n1 n2 n3 n4,fun t ht=> ?_⟩,a4, ?_, ?_,by exact Y6 n0 n1 n2 n3 n4⟩
 ·rw [o4 _ (by exact O1 ht),o3 _ (by exact O1 ht),cU (by exact Y7 n0 n1 n2 ht),o2 _ (by exact O1 ht),o1 _ (by exact O1 ht),o0 _ ht]
 ·rw [r4,n2,n1,n0];rfl
 ·rw [o4 _ (by exact Ez),o3 _ (by exact Ez), <- n0, <- n1, <- n2];exact bc _ _
structure uD (C:d_):Prop extends ConfOK C where
 tr:∀T∈C.e_,JR T
 ne:C.e_≠ []
theorem qc{C:d_}(h:ConfOK C):(gm C).length<=900:=by
 have rP:=Ao (l:=C.e_) (f:=il) (c:=77) fun x hx=>An (h.t _ hx);have:=h.l;have:=h.nl;unfold gm;simp only [List.length_append,aw,List.length_map];exact Y8 rP (by assumption) this
theorem pN{C:d_}(hC:uD C):Ok (jT.1 [.bytes (gm C)] m) fun v m'=>jk m.n m' v C/\Ext m m':=by
 have hl:=hC.l;have DI:=hC.nl;have hg:=hC.g;have he:=hC.e;have hb:(gm C).length<=1000:=by have:=qc hC.toConfOK;exact Y9 this
 have iZ:C.e_.length≠0:=fun h=>hC.ne (List.length_eq_zero_iff.mp h);have d0:(gm C).drop 0=bO 4 1953654117++(bO 1 1++((bO 1 C.name.length++C.name.map fun c=>c.toUInt8)++(bO 8 C.gR++(bO 4 C.ed++(bO 1 C.e_.length++C.e_.flatMap il))))):=rfl;generalize hB:gm C=b at d0 hb;dsimp only [jT];refine Ok.cps fun Q hq=> ?_;refine Ok.dc (eM rfl) (by keq_hits) ?_;lcg_off;refine Ok.ex (DR b m) ?_;rintro m0 ⟨x0,S0⟩;have K3:=S0.l;refine az fun zG=> ?_;obtain⟨a0,r0,_⟩:=id S0;refine zG ?_;lcg_off;refine hV (sz:=4) S0 d0 (bR rfl) (bR rfl) (bR rfl) (bR rfl) hb fun m1 S1 d1 x1 k1=> ?_;refine az fun zG=> ?_;obtain⟨a0,r0,_⟩:=id S1;refine zG ?_;lcg_off;refine hV (sz:=1) S1 d1 (bR rfl) (bR rfl) (bR rfl) (bR rfl) hb fun m2 S2 d2 x2 k2=> ?_;refine az fun zG=> ?_;obtain⟨a0,r0,_⟩:=id S2;refine zG ?_;lcg_off;refine Ok.ex (vH S2 d2 hC.nm (by exact lk DI) hb) fun m3 hq=> ?_;obtain⟨x3,S3⟩:=hq;have d3:b.drop (0+4+1+1+C.name.length)=bO 8 C.gR++(bO 4 C.ed++(bO 1 C.e_.length++C.e_.flatMap il)):=by
  rw [show 0+4+1+1+C.name.length=(0+4+1)+(1+C.name.length) by exact Y_, <- List.drop_drop,d2];exact List.drop_left' (by simp only [List.length_append,aw,List.length_map])
 have k3:=S2.nk x3;refine az fun zG=> ?_;obtain⟨a0,r0,_⟩:=id S3;refine zG ?_;lcg_off;refine hV (sz:=8) S3 d3 (by exact Za hg) (by exact Zb hg) (by exact Zc hg) (bR rfl) hb fun m4 S4 d4 x4 k4=> ?_;refine az fun zG=> ?_;obtain⟨a0,r0,_⟩:=id S4;refine zG ?_;lcg_off;refine hV (sz:=4) S4 d4 (by exact Pk he) (by exact Pl he) (by exact Tz he) (by decide) hb fun m5 S5 d5 x5 k5=> ?_;refine az fun zG=> ?_;obtain⟨a0,r0,_⟩:=id S5;refine zG ?_;lcg_off;refine hV (sz:=1) S5 (r:=C.e_.flatMap il++ []) (by rw [List.append_nil];exact d5) (by exact O2) (by exact Ru hl) (by exact Rv hl) (by decide) hb fun m6 S6 d6 x6 k6=> ?_;have X6:=((((x1.trans x2).trans x3).trans x4).trans x5).trans x6;refine az fun zG=> ?_;obtain⟨a0,r0,_⟩:=id S6;refine zG ?_;lcg_off;refine Ok.DT C.e_.length (fun fr=>∃o,fr= [o,some (.obj m.n)]) (fun k ys m1=>fj (m.n+1) m0 m1/\∃at',fv m1 m.n b at'/\b.drop at'=(C.e_.drop k).flatMap il++ []/\F2 (lb m.n m1) ys (C.e_.take k)) (by exact lk hl) ?_ ⟨_,rfl⟩ ?_ ?_
 ·lcg_off;refine Ok.of (a:= .oz 0 C.e_.length) rfl ?_;lcg_off;exact⟨rfl,X6,_,S6,d6,.nil⟩
 ·intro k' ys fr m7 hk jI gP U hj;refine az fun zG=> ?_;obtain⟨X7,at',S7,d7,F7⟩:=jI;obtain⟨o,rfl⟩:=gP;refine zG ?_;lcg_off;obtain⟨g,wN⟩:∃g,C.e_[k']? =some g:=⟨_,iP hk⟩;have Vg:C.e_.drop k'=g::C.e_.drop (k'+1):=by
   rw [List.drop_eq_getElem_cons hk];rw [iP hk] at wN
   injection wN with wN
   rw [wN]
  rw [Vg,List.flatMap_cons,List.append_assoc] at d7;refine(yo S7 d7 (hC.tr _ (jB wN)) hb).mono ?_;intro v m8 fM;refine az fun zG=> ?_;obtain⟨L8,x8,k8,S8,d8⟩:=fM;refine zG ?_;lcg_off;exact⟨⟨_,rfl⟩,X7.trans x8,_,S8,d8,by rw [cW wN];exact(F7.mono fun ψ ψ a=>a.up k8 (dT _)).snoc (L8.up (.refl _) (by have:=x0.n;have:=X7.n;exact Zd K3 this))⟩
 ·intro ys m7 fM;refine az fun zG=> ?_;obtain⟨X7,at',S7,d7,F7⟩:=fM;refine zG ?_;rw [g_] at F7;lcg_off;refine(vJ (bc _ _) (gA _) (by rw [F7.len];exact Pc hl)).q2 ?_;intro m8 x8 N8;lcg_off;have e7:=(Ext.new m7 (.list ys)).trans x8;have n0:=x0.n;have n7:=X7.n;refine⟨⟨_,_,_,rfl,N8,F7.mono fun ψ ψ a=>a.up (.of e7) (dT _),by rw [et];exact Ze K3 n7,by rw [et];exact Zf K3 n7⟩,⟨jb (jb n0 n7) e7.n,fun t ht=> ?_⟩⟩;rw [e7.ob t (by exact Zg K3 n7 ht),X7.ob t (by exact Zh K3 ht) (by exact O1 ht),x0.ob t ht]
end
section
variable {m:MH}{i:Nat}{xs:List MV}{a b g k p x:Int}{ks:List Int}{P:Plan}
section
variable {Q:MV->MH->Prop}{QB:Bool->MH->Prop}{m:MH}
theorem yF{x:MV}{T:String}{b:Bool}(h:UH x T m=some b):t5 x (.fn (.type T)) m=some (.bool b,m):=by
 show(UH x T m).bind (fun b=>some (MV.bool b,m))=_;rw [h];rfl
theorem NS(xs:List MV)(m:MH):t5 (.tup xs) (.fn (.type "tuple")) m=some (.bool true,m):=yF (by show(if "tuple"="tuple" then some true else none)=_;exact if_pos rfl)
theorem NT(x:Int)(m:MH):t5 (.int x) (.fn (.type "int")) m=some (.bool true,m):=yF (by show(if "int"="int" then some true else if "int"="bool" then some false else none)=_;exact if_pos rfl)
theorem K6(x:Int)(m:MH):t5 (.int x) (.fn (.type "bool")) m=some (.bool false,m):=yF (by show(if "bool"="int" then some true else if "bool"="bool" then some false else none)=_;exact(if_neg (bR rfl)).trans (if_pos rfl))
theorem NU(o:m.ob i= .list xs):t5 (.obj i) (.fn (.type "list")) m=some (.bool true,m):=yF ((cC o).trans (by show(if "list"="list" then some true else none)=_;exact if_pos rfl))
theorem Ok.aeu(q:Q (.bool true) m):Ok (t5 (.tup xs) (.fn (.type "tuple")) m) Q:= .of (NS _ _) q
theorem Ok.aev(q:Q (.bool true) m):Ok (t5 (.int x) (.fn (.type "int")) m) Q:= .of (NT _ _) q
theorem Ok.aew(q:Q (.bool false) m):Ok (t5 (.int x) (.fn (.type "bool")) m) Q:= .of (K6 _ _) q
theorem Ok.aex(o:m.ob i= .list xs)(q:Q (.bool true) m):Ok (t5 (.obj i) (.fn (.type "list")) m) Q:= .of (NU o) q
theorem Ok.aey(q:Q (.int (-x)) m):Ok (Su (.int x) m) Q:= .of rfl q
theorem Ok.ins{k:Str}{ns:List Str}(b:Bool)(o:m.ob i= .list xs)(e:strsOf xs=some ns)(f:ns.any (· ==k)=b)(q:QB b m):Ok (FA (.str k) (.obj i) m) QB:= .of (aV ((cC o).trans ((aV e).trans (congrArg some f)))) q
theorem Ok.ini{ns:List Int}(b:Bool)(o:m.ob i= .list xs)(e:intsOf xs=some ns)(f:ns.any (· ==k)=b)(q:QB b m):Ok (FA (.int k) (.obj i) m) QB:= .of (aV (by show Qg k (m.ob i)=some b;rw [o];exact(aV e).trans (congrArg some f))) q
theorem Ok.inr(h:a<=k/\k<b)(q:QB true m):Ok (FA (.int k) (.oz a b) m) QB:= .of (a:=true) (aV (congrArg some (decide_eq_true h))) q
theorem Ok.QA(q:Q (.oz 0 b) m):Ok (yC [.int b] m) Q:= .of rfl q
theorem Ok.QC(q:Q (.oz a b) m):Ok (yC [.int a,.int b] m) Q:= .of rfl q
theorem Ok.max2(q:Q (.int (if b>a then b else a)) m):Ok (Nd [.int a,.int b] m) Q:= .of rfl q
inductive sx:List MV->Nat->Prop where
 |nil:sx [] 0
 |cons {a:MV} {l:List MV} {k:Nat}:sx l k->sx (a::l) (k+1)
theorem sx.eq{l:List MV}{k:Nat}(h:sx l k):l.length=k:=by
 induction h with
 |nil=>rfl
 |cons _ ih=>rw [oI,ih]
theorem Ok.Vh{b:List MV}{k:Nat}(e:sx b k)(h:k<=100000)(q:Q (.int (k:Int)) m):Ok (vq [.tup b] m) Q:=by
 have:=e.eq;subst this;exact Ok.aed h q
end
noncomputable def Ap(ks:List Int)(p:Int):Int:=ks.foldl (fun f g=>(f*31+g).fmod 4294967296) (17+p)
theorem mU{o:Nat}(h:m.ob o= .list (ks.map .int)):Ok (jH.1 [.obj o,.int p] m) fun v m'=>v= .int (Ap ks p)/\m'=m:=by
 dsimp only [jH];refine Ok.cps fun Q hq=> ?_;refine Ok.dc (eM rfl) (by keq_hits) ?_;lcg_off;refine bL.forL o (ks.map .int) (fun k fr m1=>m1=m/\∃z,fr= [some (.obj o),some (.int p),some (.int ((ks.take k).foldl (fun f g=>(f*31+g).fmod 4294967296) (17+p))),z]) ?_ ?_ ?_ ?_
 ·lcg_off;exact⟨rfl,rfl,_,rfl⟩
 ·rintro k fr _ ⟨rfl,_⟩;exact h
 ·intro k v fr _ e jI J hj;refine az fun zG=> ?_;obtain⟨rfl,z,rfl⟩:=jI;refine zG ?_;rw [i_,nK] at e;refine az fun zG=> ?_;obtain⟨g,hg,rfl⟩:=e;refine zG ?_;lcg_off;exact⟨rfl,_,by rw [cW hg,List.foldl_append];rfl⟩
 ·intro fr _ fM;refine az fun zG=> ?_;obtain⟨rfl,z,rfl⟩:=fM;refine zG ?_;lcg_off;rw [eW,g_];exact⟨rfl,rfl⟩
theorem Ce(hp:0<=p/\p<256):0<=Ap ks p/\Ap ks p<2 ^ 32:=by
 have:∀(l:List Int) (a:Int),0<=a/\a<2 ^ 32->0<=l.foldl (fun f g=>(f*31+g).fmod 4294967296) a/\l.foldl (fun f g=>(f*31+g).fmod 4294967296) a<2 ^ 32:=by
  intro l
  induction l with
  |nil=>intro a h;exact h
  |cons b r ih=>exact fun a h=>ih _ ⟨Int.fmod_nonneg_of_pos _ (bR rfl),Int.fmod_lt_of_pos _ (bR rfl)⟩
 exact this ks _ (by exact YB hp)
noncomputable def eI(g:Int):MV:= .tup [.str "disk",.int g]
theorem pO(hg:0<=g/\g<2 ^ 32):Ok (lW.1 [eI g] m) fun v m'=>iu m' v g/\Ext m m':=by
 unfold eI;dsimp only [lW];refine Ok.cps fun Q hq=> ?_;refine Ok.dc (eM rfl) (by keq_hits) ?_;lcg_off;refine Ok.ex (Gg) fun m' q=> ?_;lcg_off;exact⟨⟨_,_,rfl,q.2⟩,q.1⟩
inductive Plan where
 |mV (g:Int)|Gp (ks:List Int)|rz (ks:List Int)
def o_(m:MH)(v:MV):Plan->Prop
 | .mV g=>v=eI g
 | .Gp ks=>∃l,v= .tup [.str "mirror",.obj l]/\l<m.n/\m.ob l= .list (ks.map eI)
 | .rz ks=>∃l,v= .tup [.str "raidz",.int 1,.obj l]/\l<m.n/\m.ob l= .list (ks.map eI)
def Aq(g:Int):Prop:=0<=g/\g<2 ^ 32
def th:Plan->Prop
 | .mV g=>Aq g
 | .Gp ks=>2<=ks.length/\ks.length<=10/\∀g∈ks,Aq g
 | .rz ks=>2<=ks.length/\ks.length<=10/\∀g∈ks,Aq g
noncomputable def eZ:Plan->Top
 | .mV g=>⟨0,g,0, []⟩
 | .Gp ks=>⟨1,Ap ks 0,0,ks⟩
 | .rz ks=>⟨2,Ap ks 1,1,ks⟩
theorem o_.keep{m':MH}{v:MV}(h:o_ m v P)(x:Ext m m'):o_ m' v P:=by
 cases P with
 |mV g=>exact h
 |Gp ks=>obtain⟨l,e,h1,h2⟩:=h;exact⟨l,e,eD h1 x.n,(x.ob _ h1).trans h2⟩
 |rz ks=>obtain⟨l,e,h1,h2⟩:=h;exact⟨l,e,eD h1 x.n,(x.ob _ h1).trans h2⟩
theorem SV(h:th P):JR (eZ P):=by
 cases P with
 |mV g=>exact⟨⟨by simp [eZ],h,by simp [eZ],by simp [eZ],by simp [eZ]⟩,.inl ⟨rfl,rfl,rfl⟩⟩
 |Gp ks=>exact⟨⟨by simp [eZ],Ce (of_decide_eq_true rfl),by simp [eZ],h.2.2,h.2.1⟩,.inr (.inl ⟨rfl,h.1,rfl⟩)⟩
 |rz ks=>exact⟨⟨by simp [eZ],Ce (of_decide_eq_true rfl),by simp [eZ],h.2.2,h.2.1⟩,.inr (.inr ⟨rfl,by simp [eZ],by simp [eZ],h.1⟩)⟩
theorem Bq(hg:Aq g):Ok (kF.1 [eI g] m) fun v m'=>iu m' v g/\Ext m m':=by
 have hd:=fun m=>pO (m:=m) hg;unfold eI at hd ⊢;dsimp only [kF];refine Ok.cps fun Q hq=> ?_;refine Ok.dc (eM rfl) (by keq_hits) ?_;lcg_off;refine(jz m).nl ?_;intro o1 m1 _ _ h1 x1;refine Ok.DU (Ok.ins true h1 rfl rfl ?_);lcg_off;refine(hd m1).k2 ?_;intro v m2 L x2;lcg_off;exact⟨L,x1.trans x2⟩
end
section
theorem Gq{m:MH}{v:MV}{P:Plan}(h:o_ m v P)(hP:th P):Ok (kF.1 [v] m) fun v m'=>mK m' v (eZ P)/\Ext m m':=by
 cases P with
 |mV g=>
  have h':v=eI g:=h;subst h';exact(Bq hP).mono fun v m' ⟨⟨i,j,e,N⟩,x⟩=>⟨⟨i,j, [],e,N,.nil⟩,x⟩
 |Gp ks=>
  refine az fun zG=> ?_;obtain⟨l,rfl,hl,ho⟩:=h;refine zG ?_;refine az fun zG=> ?_;obtain⟨KS,vK,ue⟩:=hP;refine zG ?_;dsimp only [kF];refine Ok.cps fun Q hq=> ?_;refine Ok.dc (eM rfl) (by keq_hits) ?_;lcg_off;refine(jz m).nl ?_;intro o1 m1 _ _ h1 x1;refine Ok.DU (Ok.ins true h1 rfl rfl ?_);have uZ:=(x1.ob _ hl).trans ho;lcg_off;refine Ok.kj l (ks.map eI) (fun fr=>∃o,fr= [o]) (fun k ys m2=>Ext m1 m2/\F2 (iu m2) ys (ks.take k)) (by simp;exact Pc vK) ?_ ⟨_,rfl⟩ ?_ ?_ ?_
  ·lcg_off;exact⟨rfl,.refl _,.nil⟩
  ·rintro k ys m2 ⟨x2,_⟩;exact(x2.ob _ (eD hl x1.n)).trans uZ
  ·intro k v ys fr m2 e gP lK U hj;refine az fun zG=> ?_;obtain⟨x2,vL⟩:=gP;obtain⟨o,rfl⟩:=lK;refine zG ?_;rw [i_,nK] at e;refine az fun zG=> ?_;obtain⟨g,hg,rfl⟩:=e;refine zG ?_;lcg_off;refine(pO (ue _ (jB hg))).k2 ?_;intro v m3 L x3;lcg_off;exact⟨⟨_,rfl⟩,x2.trans x3,by rw [cW hg];exact(vL.mono fun ψ ψ a=>a.keep (.of x3)).snoc L⟩
  rintro ys m2 ⟨x2,F⟩;rw [eW,g_] at F;have ke:=F.len;have hc:=bc m2 (.list ys);have F':=F.mono fun ψ ψ a=>iu.keep a (.of (.new m2 (.list ys)));lcg_off;refine Ok.xA hc (by exact Ex vK ke) ?_;lcg_off;refine Ok.kj m2.n ys (fun fr=>∃o,fr= [o]) (fun k zs m3=>m3=m2.new (.list ys)/\zs=(ks.take k).map .int) (by exact Ex vK ke) ?_ ⟨_,rfl⟩ ?_ ?_ ?_
  ·lcg_off;exact⟨rfl,rfl,rfl⟩
  ·rintro k zs m3 ⟨rfl,_⟩;exact hc
  ·intro k v zs fr m3 e gP lK U hj;refine az fun zG=> ?_;obtain⟨rfl,rfl⟩:=gP;obtain⟨o,rfl⟩:=lK;refine zG ?_;refine az fun zG=> ?_;obtain⟨g,hg,⟨i2,j2,rfl,a2,r2,c2,l2⟩⟩:=F'.get e;refine zG ?_;lcg_off;exact⟨⟨_,rfl⟩,rfl,by rw [cW hg,ja];rfl⟩
  rintro zs m3 ⟨rfl,rfl⟩;rw [ke,g_];generalize sF:(m2.new (.list ys)).new (.list (ks.map .int))=m4;have o4:m4.ob (m2.new (.list ys)).n= .list (ks.map .int):=by rw [<- sF];exact bc _ _
  have NV:m4.ob m2.n= .list ys:=by rw [<- sF,cU (by rw [et];exact Cv)];exact hc
  have n4:m4.n=m2.n+2:=by rw [<- sF];rfl
  have x4:Ext m2 m4:=by rw [<- sF];exact(Ext.new _ _).trans (.new _ _)
  lcg_off;refine(mU o4).q1 ?_;rintro _ rfl;lcg_off;refine Ok.ex (qH NV (by exact Ey n4) (by exact Ex vK ke)) fun m5 hq=> ?_;obtain⟨x5,N5⟩:=hq;lcg_off;exact⟨⟨_,_,_,rfl,N5,F.mono fun ψ ψ a=>a.keep (.of (x4.trans x5))⟩,((x1.trans x2).trans x4).trans x5⟩
 |rz ks=>
  refine az fun zG=> ?_;obtain⟨l,rfl,hl,ho⟩:=h;refine zG ?_;refine az fun zG=> ?_;obtain⟨KS,vK,ue⟩:=hP;refine zG ?_;dsimp only [kF];refine Ok.dc (eM rfl) (by keq_hits) ?_;lcg_off;refine(jz m).nl ?_;intro o1 m1 _ _ h1 x1;refine Ok.DU (Ok.ins true h1 rfl rfl ?_);have uZ:=(x1.ob _ hl).trans ho;lcg_off;refine Ok.kj l (ks.map eI) (fun fr=>∃o,fr= [o]) (fun k ys m2=>Ext m1 m2/\F2 (iu m2) ys (ks.take k)) (by simp;exact Pc vK) ?_ ⟨_,rfl⟩ ?_ ?_ ?_
  ·lcg_off;exact⟨rfl,.refl _,.nil⟩
  ·rintro k ys m2 ⟨x2,_⟩;exact(x2.ob _ (eD hl x1.n)).trans uZ
  ·intro k v ys fr m2 e gP lK U hj;refine az fun zG=> ?_;obtain⟨x2,vL⟩:=gP;obtain⟨o,rfl⟩:=lK;refine zG ?_;rw [i_,nK] at e;refine az fun zG=> ?_;obtain⟨g,hg,rfl⟩:=e;refine zG ?_;lcg_off;refine(pO (ue _ (jB hg))).k2 ?_;intro v m3 L x3;lcg_off;exact⟨⟨_,rfl⟩,x2.trans x3,by rw [cW hg];exact(vL.mono fun ψ ψ a=>a.keep (.of x3)).snoc L⟩
  rintro ys m2 ⟨x2,F⟩;rw [eW,g_] at F;have ke:=F.len;have hc:=bc m2 (.list ys);have F':=F.mono fun ψ ψ a=>iu.keep a (.of (.new m2 (.list ys)));lcg_off;refine Ok.inr (bR rfl) ?_;lcg_off;refine Ok.xA hc (by exact Ex vK ke) ?_;lcg_off;refine Ok.kj m2.n ys (fun fr=>∃o,fr= [o]) (fun k zs m3=>m3=m2.new (.list ys)/\zs=(ks.take k).map .int) (by exact Ex vK ke) ?_ ⟨_,rfl⟩ ?_ ?_ ?_
  ·lcg_off;exact⟨rfl,rfl,rfl⟩
  ·rintro k zs m3 ⟨rfl,_⟩;exact hc
  ·intro k v zs fr m3 e gP lK U hj;refine az fun zG=> ?_;obtain⟨rfl,rfl⟩:=gP;obtain⟨o,rfl⟩:=lK;refine zG ?_;refine az fun zG=> ?_;obtain⟨g,hg,⟨i2,j2,rfl,a2,r2,c2,l2⟩⟩:=F'.get e;refine zG ?_;lcg_off;exact⟨⟨_,rfl⟩,rfl,by rw [cW hg,ja];rfl⟩
  rintro zs m3 ⟨rfl,rfl⟩;rw [ke,g_];generalize sF:(m2.new (.list ys)).new (.list (ks.map .int))=m4;have o4:m4.ob (m2.new (.list ys)).n= .list (ks.map .int):=by rw [<- sF];exact bc _ _
  have NV:m4.ob m2.n= .list ys:=by rw [<- sF,cU (by rw [et];exact Cv)];exact hc
  have n4:m4.n=m2.n+2:=by rw [<- sF];rfl
  have x4:Ext m2 m4:=by rw [<- sF];exact(Ext.new _ _).trans (.new _ _)
  lcg_off;refine(mU o4).q1 ?_;rintro _ rfl;lcg_off;refine Ok.ex (qH NV (by exact Ey n4) (by exact Ex vK ke)) fun m5 hq=> ?_;obtain⟨x5,N5⟩:=hq;lcg_off;exact⟨⟨_,_,_,rfl,N5,F.mono fun ψ ψ a=>a.keep (.of (x4.trans x5))⟩,((x1.trans x2).trans x4).trans x5⟩
end
section
variable {i:Nat}{m:MH}
theorem ml(ns:List Int):intsOf (ns.map MV.int)=some ns:=by
 induction ns with
 |nil=>rfl
 |cons a r ih=>exact(aV (f:=fun ns=>some (_::ns)) ih)
section
variable {Q:MV->MH->Prop}{QB:Bool->MH->Prop}{m:MH}
theorem Ok.aeA{ns:List Int}(o:m.ob i= .list (ns.map .int))(h:ns.length<=4000)(q:Q (.obj m.n) (m.new (.tL (distinct ns)))):Ok (Nl (.obj i) m) Q:= .of ((cC o).trans ((aV (ml _)).trans (if_pos h))) q
theorem Ok.IE{j:Nat}{xs ys:List MV}(oi:m.ob i= .list xs)(oj:m.ob j= .list ys)(h:xs.length≠ys.length)(q:QB false m):Ok (vr (.obj i) (.obj j) m) QB:= .of (aV ((cC oi).trans ((cC oj).trans (if_neg h)))) q
end
noncomputable def iw(Ps:List Plan):List Int:=Ps.flatMap fun P=>gy (eZ P)
theorem nj{P:Plan}(h:th P):(eZ P).ks.length<=10:=(SV h).l
theorem jJ{nm:List Nat}{g e:Int}{l:Nat}{vs:List MV}{Ps:List Plan}(hl:l<m.n)(ho:m.ob l= .list vs)(F:F2 (o_ m) vs Ps)(hP:∀P∈Ps,th P)(hn:Ps≠ [])(hz:Ps.length<=10)(hd:distinct (iw Ps)=(iw Ps).length):
  Ok (fP.1 [.str (strOf nm),.int g,.obj l,.int e] m) fun v m'=>eY m' v ⟨nm,g,e,Ps.map eZ⟩/\Ext m m':=by
 have QE:=F.len;have v9:Ps.length≠0:=fun h=>hn (List.length_eq_zero_iff.mp h);dsimp only [fP];refine Ok.cps fun Q hq=> ?_;refine Ok.dc (eM rfl) (by keq_hits) ?_;lcg_off;refine Ok.kj l vs (fun fr=>∃o,fr= [o]) (fun k ys m2=>Ext m m2/\F2 (mK m2) ys ((Ps.take k).map eZ)) (by exact Ex hz QE) ?_ ⟨_,rfl⟩ ?_ ?_ ?_
 ·lcg_off;exact⟨rfl,.refl _,.nil⟩
 ·rintro k ys m2 ⟨x2,_⟩;exact(x2.ob _ hl).trans ho
 ·intro k v ys fr m2 e gP lK U hj;refine az fun zG=> ?_;obtain⟨x2,vL⟩:=gP;obtain⟨o,rfl⟩:=lK;refine zG ?_;refine az fun zG=> ?_;obtain⟨P,Hy,L⟩:=F.get e;refine zG ?_;lcg_off;refine(Gq (L.keep x2) (hP _ (jB Hy))).k2 ?_;intro v m3 L x3;lcg_off;exact⟨⟨_,rfl⟩,x2.trans x3,by rw [cW Hy,ja];exact(vL.mono fun ψ ψ a=>a.keep (.of x3)).snoc L⟩
 rintro ys m2 ⟨x2,FT⟩;rw [QE,g_] at FT;have ke:=FT.len;rw [eW] at ke;generalize Ar:m2.new (.list ys)=m3;have o3:m3.ob m2.n= .list ys:=by rw [<- Ar];exact bc _ _
 have n3:m3.n=m2.n+1:=by rw [<- Ar];rfl
 have x3:Ext m2 m3:=by rw [<- Ar];exact .new _ _
 have FT3:=FT.mono fun ψ ψ a=>mK.keep a (.of x3);lcg_off;refine bL.forL m2.n ys (fun k fr m4=>∃z,fr= [some (.str (strOf nm)),some (.int g),some (.obj l),some (.int e),some (.obj m2.n),some (.obj m3.n),z]/\Ext m3 m4/\m3.n<m4.n/\m4.ob m3.n= .list ((iw (Ps.take k)).map .int)) ?_ ?_ ?_ ?_
 ·lcg_off;exact⟨rfl,_,rfl,.new _ _,gA _,bc _ _⟩
 ·intro k fr m4 mL;refine az fun zG=> ?_;obtain⟨z,rfl,x4,_⟩:=mL;refine zG ?_;exact(x4.ob _ (by exact O7 n3)).trans o3
 ·intro k v fr m4 e jI J hj;refine az fun zG=> ?_;obtain⟨z,rfl,x4,h4,o4⟩:=jI;refine zG ?_;refine az fun zG=> ?_;obtain⟨T,hT,L⟩:=FT3.get e;refine zG ?_;rw [i_,nK] at hT;refine az fun zG=> ?_;obtain⟨P,Hy,rfl⟩:=hT;refine zG ?_;have SW:=hP _ (jB Hy);lcg_off;refine(sD (L.keep (.of x4)) (by have:=nj SW;exact Hb this)).nl ?_;intro o5 m5 _ _ h5 x5;have NV:=(x5.ob _ h4).trans o4;lcg_off;have b1:(iw (Ps.take k)).length<=100*(Ps.take k).length:=td (l:=Ps.take k) fun P h=>iO (by have:=nj (hP P (List.mem_of_mem_take h));exact Hb this);have b2:(Ps.take k).length<=10:=by rw [ie];exact Ts hz
  have b3:=iO (T:=eZ P) (by have:=nj SW;exact Hb this);refine Ok.NI NV h5 ⟨by rw [eW,eW];exact WU b1 b2 b3,eD h4 x5.n⟩ ?_;lcg_off;refine⟨_,rfl,(x4.trans x5).oY (dT _),eD h4 x5.n, ?_⟩;rw [fK];unfold iw;rw [qI Hy,ja]
 ·intro fr m4 fM;refine az fun zG=> ?_;obtain⟨z,rfl,x4,h4,o4⟩:=fM;refine zG ?_;rw [ke,g_] at o4;have b1:(iw Ps).length<=100*Ps.length:=td (l:=Ps) fun P h=>iO (by have:=nj (hP P h);exact Hb this);have o4t:=(x4.ob _ (by exact O7 n3)).trans o3;lcg_off;generalize Vi:m4.new (.list [])=m5;have x5:Ext m4 m5:=by rw [<- Vi];exact .new _ _
  have o5:m5.ob m4.n= .list []:=by rw [<- Vi];exact bc _ _
  have n5:m5.n=m4.n+1:=by rw [<- Vi];rfl
  have Br:=x4.n;have o5t:=(x5.ob _ (by exact WV n3 h4)).trans o4t;have o5g:=(x5.ob _ h4).trans o4;refine Ok.IE o5t o5 (by rw [ke];exact v9) ?_;lcg_off;refine Ok.xA o5g (by rw [eW];exact Wu hz b1) ?_;lcg_off;refine Ok.aeA o5g (by exact WW hz b1) ?_;generalize hm6:m5.new (.tL _)=m6;have x6:Ext m5 m6:=by rw [<- hm6];exact .new _ _
  have o6:m6.ob m5.n= .tL (distinct (iw Ps)):=by rw [<- hm6];exact bc _ _
  lcg_off;refine Ok.aef o6 (by rw [hd];exact Wu hz b1) ?_;lcg_off;refine Ok.wK (by rw [hd,eW]) ?_;lcg_off;have o6t:=(x6.ob _ (by exact WX n3 h4 n5)).trans o5t;refine(vJ o6t (by have:=x6.n;exact WY n3 h4 n5 this) (by exact Ex hz ke)).q2 ?_;intro m7 x7 N7;lcg_off;exact⟨⟨_,_,_,rfl,N7,FT3.mono fun ψ ψ a=>a.keep (.of (((x4.trans x5).trans x6).trans x7))⟩,((((x2.trans x3).trans x4).trans x5).trans x6).trans x7⟩
noncomputable def fI(n:Nat):List Int:=(List.range n).map fun(k:Nat)=>10+(k:Int)
noncomputable def dm(n:Nat)(w:Int):List Plan:=
 if w=1/\1<n then .Gp ((fI n).take 2)::((fI n).drop 2).map .mV else if w=2/\2<n then .rz ((fI n).take 3)::((fI n).drop 3).map .mV else(fI n).map .mV
theorem F2.DY(m:MH)(ks:List Int):F2 (o_ m) (ks.map eI) (ks.map .mV):=by
 induction ks with
 |nil=>exact .nil
 |cons a r ih=>exact .cons rfl ih
theorem As(n:Nat):(fI n).length=n:=by simp [fI]
theorem Bs{n:Nat}{w:Int}(hn:n<=100):Ok (iN.1 [.int n,.int w] m) fun v m'=>∃o vs,v= .obj o/\o<m'.n/\m'.ob o= .list vs/\F2 (o_ m') vs (dm n w)/\Ext m m':=by
 have K7:=As n;dsimp only [iN];refine Ok.cps fun Q hq=> ?_;refine Ok.dc (eM rfl) (by keq_hits) ?_
 set_option tactic.hygienic true in lcg_off
 refine Ok.DT n (fun fr=>∃o,fr= [o]) (fun k ys m2=>m2=m/\ys=((List.range k).map fun(k:Nat)=>eI (10+(k:Int)))) (by exact lk hn) ?_ ⟨_,rfl⟩ ?_ ?_
 ·lcg_off;exact⟨rfl,rfl,rfl⟩
 ·intro k ys fr _ hk jI gP U hj;refine az fun zG=> ?_;obtain⟨rfl,rfl⟩:=jI;obtain⟨o,rfl⟩:=gP;refine zG ?_;lcg_off;exact⟨⟨_,rfl⟩,rfl,by rw [List.range_succ,ja];rfl⟩
 set_option tactic.hygienic true in rintro ys _ ⟨rfl,rfl⟩
 have ue:(List.range n).map (fun(k:Nat)=>eI (10+(k:Int)))=(fI n).map eI:=by unfold fI;rw [List.map_map];rfl
 rw [ue];rename_i mm;generalize yk:mm.new (.list ((fI n).map eI))=m1;have x1:Ext mm m1:=by rw [<- yk];exact .new _ _
 have o1:m1.ob mm.n= .list ((fI n).map eI):=by rw [<- yk];exact bc _ _
 have n1:m1.n=mm.n+1:=by rw [<- yk];rfl
 by_cases hw:w=1/\1<n
 ·obtain⟨Vj,Vk⟩:=hw;have e:dm n w= .Gp ((fI n).take 2)::((fI n).drop 2).map .mV:=if_pos ⟨Vj,Vk⟩;lcg_off;refine Ok.Gi o1 rfl rfl (by rw [eW];exact J7 hn K7) ?_;have ec:c8 ((fI n).map eI) none (some 2)=((fI n).take 2).map eI:=(uo _ 2).trans (List.map_take).symm;rw [ec];generalize rn:m1.new (.list (((fI n).take 2).map eI))=m2;have x2:Ext m1 m2:=by rw [<- rn];exact .new _ _
  have o2:m2.ob m1.n= .list (((fI n).take 2).map eI):=by rw [<- rn];exact bc _ _
  have n2:m2.n=m1.n+1:=by rw [<- rn];rfl
  lcg_off;generalize Ar:m2.new (.list [.tup [.str "mirror",.obj m1.n]])=m3;have x3:Ext m2 m3:=by rw [<- Ar];exact .new _ _
  have o3:m3.ob m2.n= .list [.tup [.str "mirror",.obj m1.n]]:=by rw [<- Ar];exact bc _ _
  have n3:m3.n=m2.n+1:=by rw [<- Ar];rfl
  lcg_off;refine Ok.Gi (((x2.trans x3).ob _ (by exact O7 n1)).trans o1) rfl rfl (by rw [eW];exact J7 hn K7) ?_;have ec:c8 ((fI n).map eI) (some 2) none=((fI n).drop 2).map eI:=(zI _ 2).trans (List.map_drop).symm;rw [ec];generalize sF:m3.new (.list (((fI n).drop 2).map eI))=m4;have x4:Ext m3 m4:=by rw [<- sF];exact .new _ _
  have o4:m4.ob m3.n= .list (((fI n).drop 2).map eI):=by rw [<- sF];exact bc _ _
  have n4:m4.n=m3.n+1:=by rw [<- sF];rfl
  lcg_off;refine Ok.SN ((x4.ob _ (by exact O7 n3)).trans o3) o4 (by simp;exact WZ hn K7) ?_;lcg_off;refine⟨_,_,rfl,gA _,bc _ _, ?_,(((x1.trans x2).trans x3).trans x4).trans (.new _ _)⟩;rw [e];refine .cons ⟨_,rfl,by rw [et];exact Q8 n2 n3 n4, ?_⟩ (F2.DY _ _);exact(((x3.trans x4).trans (.new _ _)).ob _ (by exact O7 n2)).trans o2
 ·by_cases hv:w=2/\2<n
  ·obtain⟨Vj,Vk⟩:=hv;have e:dm n w= .rz ((fI n).take 3)::((fI n).drop 3).map .mV:=(if_neg hw).trans (if_pos ⟨Vj,Vk⟩);lcg_off;refine Ok.Gi o1 rfl rfl (by rw [eW];exact J7 hn K7) ?_;have ec:c8 ((fI n).map eI) none (some 3)=((fI n).take 3).map eI:=(uo _ 3).trans (List.map_take).symm;rw [ec];generalize rn:m1.new (.list (((fI n).take 3).map eI))=m2;have x2:Ext m1 m2:=by rw [<- rn];exact .new _ _
   have o2:m2.ob m1.n= .list (((fI n).take 3).map eI):=by rw [<- rn];exact bc _ _
   have n2:m2.n=m1.n+1:=by rw [<- rn];rfl
   lcg_off;generalize Ar:m2.new (.list [.tup [.str "raidz",.int 1,.obj m1.n]])=m3;have x3:Ext m2 m3:=by rw [<- Ar];exact .new _ _
   have o3:m3.ob m2.n= .list [.tup [.str "raidz",.int 1,.obj m1.n]]:=by rw [<- Ar];exact bc _ _
   have n3:m3.n=m2.n+1:=by rw [<- Ar];rfl
   lcg_off;refine Ok.Gi (((x2.trans x3).ob _ (by exact O7 n1)).trans o1) rfl rfl (by rw [eW];exact J7 hn K7) ?_;have ec:c8 ((fI n).map eI) (some 3) none=((fI n).drop 3).map eI:=(zI _ 3).trans (List.map_drop).symm;rw [ec];generalize sF:m3.new (.list (((fI n).drop 3).map eI))=m4;have x4:Ext m3 m4:=by rw [<- sF];exact .new _ _
   have o4:m4.ob m3.n= .list (((fI n).drop 3).map eI):=by rw [<- sF];exact bc _ _
   have n4:m4.n=m3.n+1:=by rw [<- sF];rfl
   lcg_off;refine Ok.SN ((x4.ob _ (by exact O7 n3)).trans o3) o4 (by simp;exact W0 hn K7) ?_;lcg_off;refine⟨_,_,rfl,gA _,bc _ _, ?_,(((x1.trans x2).trans x3).trans x4).trans (.new _ _)⟩;rw [e];refine .cons ⟨_,rfl,by rw [et];exact Q8 n2 n3 n4, ?_⟩ (F2.DY _ _);exact(((x3.trans x4).trans (.new _ _)).ob _ (by exact O7 n2)).trans o2
  ·have e:dm n w=(fI n).map .mV:=(if_neg hw).trans (if_neg hv);lcg_src;refine bL.test (Ok.mono (Q:=fun v m'=>v=false/\m'=m1) ?_ ?_)
   ·by_cases h1:w=1
    ·lcg_off;exact⟨rfl,rfl⟩
    ·lcg_off;exact⟨rfl,rfl⟩
   rintro _ PS ⟨rfl,e1⟩;cases e1
   by_cases h2:w=2
   ·lcg_off;exact⟨_,_,rfl,by exact O7 n1,o1,by rw [e];exact F2.DY _ _,x1⟩
   ·lcg_off;exact⟨_,_,rfl,by exact O7 n1,o1,by rw [e];exact F2.DY _ _,x1⟩
end
section
variable {m:MH}{n s:Nat}{xs:List Int}{w:Int}
noncomputable def eJ(xs:List Int)(k:Nat):Int:=if k<xs.length then xs.getD k 0 else 3*(k:Int)+2
theorem jA{k:Nat}(o:m.ob s= .list (xs.map .int))(hz:xs.length<=1000)(hk:k<=100):Ok (gF.1 [.obj s,.int (k:Int)] m) fun v m'=>v= .int (eJ xs k)/\m'=m:=by
 dsimp only [gF];refine Ok.cps fun Q hq=> ?_;refine Ok.dc (eM rfl) (by keq_hits) ?_;lcg_off;refine Ok.xA o (by rw [eW];exact O34 hz) ?_
 by_cases h:k<xs.length
 ·have e:eJ xs k=xs.getD k 0:=if_pos h;refine Ok.SF (by rw [eW];exact aaZ h) ?_;lcg_off;refine Ok.qa o (by exact aa0 hk) (v:= .int (xs.getD k 0)) ?_ ?_
  ·rw [l7,i_,iP h,pS,iP h];rfl
  lcg_off;exact⟨by rw [e],rfl⟩
 ·have e:eJ xs k=3*(k:Int)+2:=if_neg h;refine Ok.SH (by rw [eW];exact aa1 h) ?_;lcg_off;exact⟨by rw [e],rfl⟩
theorem og{x:Int}(hx:0<=x/\x<=100):Ok (iN.1 [.int x,.int w] m) fun v m'=>∃o vs,v= .obj o/\o<m'.n/\m'.ob o= .list vs/\F2 (o_ m') vs (dm x.toNat w)/\Ext m m':=by
 obtain⟨n,rfl⟩:∃n:Nat,x=n:=⟨x.toNat,by exact aa2 hx⟩;exact Bs (by exact aa3 hx)
theorem Vm(n:Nat)(h:n<=100):∀g∈fI n,Aq g:=fun g hg=>by
 unfold fI at hg;rw [List.mem_map] at hg;refine az fun zG=> ?_;obtain⟨k,hk,rfl⟩:=hg;refine zG ?_;have:=List.mem_range.mp hk;unfold Aq;exact aa4 h this
theorem uE(ks:List Int):(ks.map Plan.mV).flatMap (fun P=>gy (eZ P))=ks:=by
 induction ks with
 |nil=>rfl
 |cons a r ih=>rw [List.map_cons,List.flatMap_cons,ih];rfl
theorem j8(n:Nat)(w:Int):iw (dm n w)=fI n:=by
 delta dm iw
 split
 ·rw [List.flatMap_cons,uE];exact List.take_append_drop 2 (fI n)
 ·split
  ·rw [List.flatMap_cons,uE];exact List.take_append_drop 3 (fI n)
  ·exact uE _
theorem nq(h1:1<=n)(h5:n<=5):(∀P∈dm n w,th P)/\dm n w≠ []/\(dm n w).length<=10:=by
 have hG:=Vm n (by exact lk h5);have hl:=As n;have hd:∀(l:List Int),(∀g∈l,Aq g)->∀P∈l.map Plan.mV,th P:=fun l hl P hP=>by
  rw [List.mem_map] at hP;refine az fun zG=> ?_;obtain⟨g,hg,rfl⟩:=hP;refine zG ?_;exact hl g hg
 unfold dm
 split
 ·rename_i h;refine⟨fun P hP=> ?_,by simp,by simp;exact aa5 h5 hl⟩;rcases List.mem_cons.mp hP with rfl|hP
  ·exact⟨by rw [ie];exact aa6 hl h,by rw [ie];exact aa7,fun g hg=>hG g (List.mem_of_mem_take hg)⟩
  ·exact hd _ (fun g hg=>hG g (List.mem_of_mem_drop hg)) P hP
 ·split
  ·rename_i h;refine⟨fun P hP=> ?_,by simp,by simp;exact aa8 h5 hl⟩;rcases List.mem_cons.mp hP with rfl|hP
   ·exact⟨by rw [ie];exact aa9 hl h,by rw [ie];exact aa_,fun g hg=>hG g (List.mem_of_mem_take hg)⟩
   ·exact hd _ (fun g hg=>hG g (List.mem_of_mem_drop hg)) P hP
  ·refine⟨hd _ hG,fun h=> ?_,by rw [eW];exact aba h5 hl⟩;have:=congrArg List.length h;rw [eW,hl,List.length_nil] at this;exact abb h1 h5 hl this
theorem pP(h:n<=5):distinct (fI n)=(fI n).length:=by
 exact(bR rfl:∀n<6,distinct (fI n)=(fI n).length) n (Nat.lt_succ_of_le h)
noncomputable def nA(a:Int):Nat:=(1+(a.fdiv 3).fmod 5).toNat
noncomputable def nB(b:Int):Nat:=(1+(b.fdiv 5).fmod 5).toNat
noncomputable def nC(c:Int):Nat:=(1+c.fmod 5).toNat
noncomputable def nameA(a:Int):List Nat:= [116,97,110,107,97+(a.fmod 3).toNat]
noncomputable def IF(a b:Int):d_:=⟨nameA a,70+b.fmod 5,1+(a.fdiv 45).fmod 3,(dm (nA a) ((a.fdiv 15).fmod 3)).map eZ⟩
noncomputable def IG(a b:Int):d_:=⟨nameA a,70+b.fmod 5,1+(b.fdiv 75).fmod 4,(dm (nB b) ((b.fdiv 25).fmod 3)).map eZ⟩
noncomputable def IH(c:Int):d_:=⟨[122],80,1+(c.fdiv 15).fmod 4,(dm (nC c) ((c.fdiv 5).fmod 3)).map eZ⟩
theorem eN(a:Int){k:Int}(h:0<k):0<=a.fmod k/\a.fmod k<k:=⟨Int.fmod_nonneg_of_pos _ h,Int.fmod_lt_of_pos _ h⟩
theorem K9(a:Int)(m:MH):∃s,zN (.str "abc") (.int (a.fmod 3)) m=some (.str s,m)/\zK (.str "tank") (.str s) m=some (.str (strOf (nameA a)),m):=by
 have h:=eN a (k:=3) (bR rfl);unfold nameA;generalize a.fmod 3=x at h;have:x=0\/x=1\/x=2:=by exact Rh h
 rcases this with rfl|rfl|rfl
 ·exact⟨_,rfl,rfl⟩
 ·exact⟨_,rfl,rfl⟩
 ·exact⟨_,rfl,rfl⟩
theorem yp(o:m.ob s= .list (xs.map .int))(hs:s<m.n)(hz:xs.length<=1000):
  Ok (mI.1 [.obj s] m) fun v m'=>∃o c0 c1 c2,v= .obj o/\m.n<=o/\o<m'.n/\m'.ob o= .list [c0,c1,c2]/\eY m' c0 (IF (eJ xs 0) (eJ xs 1))/\eY m' c1 (IG (eJ xs 0) (eJ xs 1))/\eY m' c2 (IH (eJ xs 2))/\Ext m m':=by
 dsimp only [mI];refine Ok.cps fun Q hq=> ?_;refine Ok.dc (eM rfl) (by keq_hits) ?_;lcg_off;refine(jA (k:=0) o hz (bR rfl)).q1 ?_;rintro _ rfl;lcg_off;refine(jA (k:=1) o hz (bR rfl)).q1 ?_;rintro _ rfl
 set_option tactic.hygienic true in lcg_off
 refine(jA (k:=2) o hz (bR rfl)).q1 ?_
 set_option tactic.hygienic true in rintro _ rfl
 generalize eJ xs 0=a at hq ⊢;generalize eJ xs 1=b at hq ⊢;generalize eJ xs 2=c at hq ⊢;rename_i m;lcg_off;refine az fun zG=> ?_;obtain⟨s1,e1,e2⟩:=K9 a m;refine zG ?_;refine Ok.of e1 ?_;lcg_off;refine Ok.of e2 ?_;lcg_off;have r1:=eN (a.fdiv 3) (k:=5) (by decide);have r2:=eN (b.fdiv 5) (k:=5) (by decide);have r3:=eN c (k:=5) (by decide);refine(og (m:=m) (x:=1+(a.fdiv 3).fmod 5) (w:=(a.fdiv 15).fmod 3) (by exact TG r1)).mono ?_;intro _ m1 fM;refine az fun zG=> ?_;obtain⟨o1,vs1,rfl,h1,uZ,F1,x1⟩:=fM;refine zG ?_;lcg_off;refine az fun zG=> ?_;obtain⟨p1,p2,p3⟩:=nq (n:=nA a) (w:=(a.fdiv 15).fmod 3) (by unfold nA;exact J9 r1) (by unfold nA;exact O5 r1);refine zG ?_;refine(jJ h1 uZ F1 p1 p2 p3 (by rw [j8];exact pP (by exact O5 r1))).k2 ?_;intro c0 m2 C0 x2;have C0':eY m2 c0 (IF a b):=C0;refine az fun zG=> ?_;obtain⟨i0,j0,Vo,rfl,⟨a0,r0,l0,l0'⟩,f0⟩:=id C0;refine zG ?_;lcg_off;refine(og (m:=m2) (x:=1+(b.fdiv 5).fmod 5) (w:=(b.fdiv 25).fmod 3) (by exact TG r2)).mono ?_;intro _ m3 fM;refine az fun zG=> ?_;obtain⟨o3,vs3,rfl,h3,ho3,F3,x3⟩:=fM;refine zG ?_;lcg_off;refine az fun zG=> ?_;obtain⟨p1,p2,p3⟩:=nq (n:=nB b) (w:=(b.fdiv 25).fmod 3) (by unfold nB;exact J9 r2) (by unfold nB;exact O5 r2);refine zG ?_;refine(jJ h3 ho3 F3 p1 p2 p3 (by rw [j8];exact pP (by exact O5 r2))).k2 ?_;intro c1 m4 C1 x4;have C1':eY m4 c1 (IG a b):=C1;lcg_off;refine(og (m:=m4) (x:=1+c.fmod 5) (w:=(c.fdiv 5).fmod 3) (by exact TG r3)).mono ?_;intro _ m5 fM;refine az fun zG=> ?_;obtain⟨o5,vs5,rfl,h5,ho5,F5,x5⟩:=fM;refine zG ?_;lcg_off;refine az fun zG=> ?_;obtain⟨p1,p2,p3⟩:=nq (n:=nC c) (w:=(c.fdiv 5).fmod 3) (by unfold nC;exact J9 r3) (by unfold nC;exact O5 r3);refine zG ?_;refine(jJ (nm:= [122]) h5 ho5 F5 p1 p2 p3 (by rw [j8];exact pP (by exact O5 r3))).k2 ?_;intro c2 m6 C2 x6;have C2':eY m6 c2 (IH c):=C2;lcg_off;have e6:=(x1.trans x2).trans ((x3.trans x4).trans (x5.trans x6));exact⟨_,_,_,_,rfl,e6.n,gA _,bc _ _,C0'.keep (.of (((x3.trans x4).trans (x5.trans x6)).trans (.new _ _))),C1'.keep (.of ((x5.trans x6).trans (.new _ _))),C2'.keep (.of (.new _ _)),e6.trans (.new _ _)⟩
end
section
variable {m:MH}{sh:Nat}
structure c9 (m:MH) (i:Nat):Prop where
 a:m.ob i= .inst 346
 r:m.ob (i+1)= .dO [("sector",.int 16),("slab",.int 32),("record",.int 32),("fan",.int 4),("dnodes",.int 4),("ring",.int 1),("defer",.int 2),("most_record",.int 128),("uber",.int 16),("config",.int 160),("zap",.int 128)]
 l:i+1<m.n
theorem c9.keep{m':MH}{i:Nat}(h:c9 m i)(x:Ext m m'):c9 m' i:=by
 refine az fun zG=> ?_;obtain⟨a,r,l⟩:=h;refine zG ?_;exact⟨(x.ob _ (by exact O3 l)).trans a,(x.ob _ l).trans r,eD l x.n⟩
theorem Ok.FQ{Q:MV->MH->Prop}{sel:List MV->Option (List MV)}{r:Nat}{c:SM}{xs ys:List MV}{u9:av}(hs:sel xs=some ys)(hf:sq (ys.map some++List.replicate r none) u9)(h:bL (c u9 m) (xx Q)):Ok (FQ sel r c xs m) Q:=by
 refine az fun zG=> ?_;obtain⟨f,el,m1,e,q⟩:=h;refine zG ?_;unfold sq at hf;subst hf;have key:∀ {z},Mine.endOf (some (f,el,m1))=z->Mine.FQ sel r c xs m=z:=fun h=>(aV hs).trans ((congrArg Mine.endOf e).trans h);cases f with
 |next=>exact⟨.none,m1,key rfl,q⟩
 |ret v=>exact⟨v,m1,key rfl,q⟩
 |brk=>exact q.elim
 |cont=>exact q.elim
theorem xC(m:MH)(C:Addr):((m.new (.inst C)).new (.dO [])).n=m.n+2/\((m.new (.inst C)).new (.dO [])).ob m.n= .inst C/\((m.new (.inst C)).new (.dO [])).ob (m.n+1)= .dO []/\∀t,t<m.n->((m.new (.inst C)).new (.dO [])).ob t=m.ob t:=
 ⟨rfl,by rw [cU (by rw [et];exact Cv)];exact bc _ _,bc (m.new (.inst C)) _,fun t ht=>by rw [cU (by rw [et];exact J8 ht),cU ht]⟩
theorem Gr(m:MH):Ok (B7.1 [.int 16,.int 1,.int 16,.int 160] m) fun v m'=>v= .obj m.n/\c9 m' m.n/\Ext m m':=by
 refine Ok.new ?_;refine az fun zG=> ?_;obtain⟨n0,a0,r0,o0⟩:=xC m 346;refine zG ?_;generalize (m.new (.inst 346)).new (.dO [])=m0 at n0 a0 r0 o0;refine Ok.FQ (ys:= [.obj m.n,.int 16,.int 32,.int 32,.int 4,.int 4,.int 1,.int 2,.int 128,.int 16,.int 160,.int 128]) rfl (by keq_hits) ?_;lcg_off;refine Ok.gp a0 r0 (by decide) (by exact Ey n0) (i9 rfl) rfl fun m1 a1 r1 n1 o1=> ?_;lcg_off;refine Ok.gp a1 r1 (by decide) (by exact Tv n0 n1) (i9 rfl) rfl fun m2 a2 r2 n2 o2=> ?_;lcg_off;refine Ok.gp a2 r2 (by decide) (by exact Rk n0 n1 n2) (i9 rfl) rfl fun m3 a3 r3 n3 o3=> ?_;lcg_off;refine Ok.gp a3 r3 (by decide) (by exact XC n0 n1 n2 n3) (i9 rfl) rfl fun m4 a4 r4 n4 o4=> ?_;lcg_off;refine Ok.gp a4 r4 (by decide) (by exact XD n0 n1 n2 n3 n4) (i9 rfl) rfl fun m5 a5 r5 n5 o5=> ?_;lcg_off;refine Ok.gp a5 r5 (by decide) (by exact XE n0 n1 n2 n3 n4 n5) (i9 rfl) rfl fun m6 a6 r6 n6 o6=> ?_;lcg_off;refine Ok.gp a6 r6 (by decide) (by exact XF n0 n1 n2 n3 n4 n5 n6) (i9 rfl) rfl fun m7 a7 r7 n7 o7=> ?_;lcg_off;refine Ok.gp a7 r7 (by decide) (by exact XG n0 n1 n2 n3 n4 n5 n6 n7) (i9 rfl) rfl fun m8 a8 r8 n8 o8=> ?_;lcg_off;refine Ok.gp a8 r8 (by decide) (by exact XH n0 n1 n2 n3 n4 n5 n6 n7 n8) (i9 rfl) rfl fun m9 a9 r9 n9 o9=> ?_;lcg_off;refine Ok.gp a9 r9 (by decide) (by exact XI n0 n1 n2 n3 n4 n5 n6 n7 n8 n9) (i9 rfl) rfl fun mA aA rA nA oA=> ?_;lcg_off;refine Ok.gp aA rA (by decide) (by exact XJ n0 n1 n2 n3 n4 n5 n6 n7 n8 n9 nA) (i9 rfl) rfl fun mB aB rB nB oB=> ?_;lcg_off;refine⟨rfl,rfl,⟨aB,rB,by exact XK n0 n1 n2 n3 n4 n5 n6 n7 n8 n9 nA nB⟩,by exact XM n0 n1 n2 n3 n4 n5 n6 n7 n8 n9 nA nB,fun t ht=> ?_⟩;rw [oB _ (by exact O1 ht),oA _ (by exact O1 ht),o9 _ (by exact O1 ht),o8 _ (by exact O1 ht),o7 _ (by exact O1 ht),o6 _ (by exact O1 ht),o5 _ (by exact O1 ht),o4 _ (by exact O1 ht),o3 _ (by exact O1 ht),o2 _ (by exact O1 ht),o1 _ (by exact O1 ht),o0 _ ht]
section
variable {m:MH}{i:Nat}
theorem kl(S:c9 m i):Ok (gk.1 [.obj i] m) fun v m'=>v= .int 10/\m'=m:=by
 refine az fun zG=> ?_;obtain⟨a,r,l⟩:=S;refine zG ?_;dsimp only [gk];refine Ok.cps fun Q hq=> ?_;refine Ok.dc (eM rfl) (by keq_hits) ?_;lcg_off;dsimp only [oV];refine Ok.dc (eM rfl) (by keq_hits) ?_;lcg_off;exact⟨rfl,rfl⟩
theorem wO(S:c9 m i):Ok (lG.1 [.obj i] m) fun v m'=>v= .int 1/\m'=m:=by
 refine az fun zG=> ?_;obtain⟨a,r,l⟩:=S;refine zG ?_;dsimp only [lG];refine Ok.cps fun Q hq=> ?_;refine Ok.dc (eM rfl) (by keq_hits) ?_;lcg_off;dsimp only [oV];refine Ok.dc (eM rfl) (by keq_hits) ?_;lcg_off;exact⟨rfl,rfl⟩
theorem vM(S:c9 m i):Ok (k9.1 [.obj i] m) fun v m'=>v= .int 11/\m'=m:=by
 refine az fun zG=> ?_;obtain⟨a,r,l⟩:=id S;refine zG ?_;dsimp only [k9];refine Ok.cps fun Q hq=> ?_;refine Ok.dc (eM rfl) (by keq_hits) ?_;lcg_off;refine(kl S).q1 ?_;rintro _ rfl;lcg_off;refine(wO S).q1 ?_;rintro _ rfl;lcg_off;exact⟨rfl,rfl⟩
end
structure dB (out:Bool) (w r:Int) (i jo jw:Nat) (b:List UInt8) (ws:List MV) (m:MH):Prop where
 a:m.ob i= .inst 526
 r:m.ob (i+1)= .dO [("sector",.int 16),("octets",.obj jo),("waiting",.obj jw),("is_out",.bool out),("reads",.int r),("writes",.int w)]
 o:m.ob jo= .ba b
 w:m.ob jw= .list ws
 l:i+1<m.n/\jo<m.n/\jw<m.n
section
variable {m m':MH}{i jo jw:Nat}{b:List UInt8}{ws:List MV}{out:Bool}{r w:Int}
theorem dB.keep(S:dB out w r i jo jw b ws m)(x:Ext m m'):dB out w r i jo jw b ws m':=by
 refine az fun zG=> ?_;obtain⟨a,q,o,u,l1,l2,l3⟩:=S;refine zG ?_;have:=x.n;exact⟨(x.ob _ (by exact O3 l1)).trans a,(x.ob _ l1).trans q,(x.ob _ l2).trans o,(x.ob _ l3).trans u,by exact XN l1 this,by exact He l2 this,by exact He l3 this⟩
theorem dB.ne(S:dB out w r i jo jw b ws m):i≠jo/\i≠jw/\i+1≠jo/\i+1≠jw/\jo≠jw:=by
 refine az fun zG=> ?_;obtain⟨a,q,o,u,l⟩:=S;refine zG ?_;refine⟨?_, ?_, ?_, ?_, ?_⟩ <;> intro h <;> simp_all
theorem II(S:c9 m sh):Ok (FV.1 [.int 24,.obj sh] m) fun v m'=>v= .obj m.n/\dB false 0 0 m.n (m.n+2) (m.n+3) (List.replicate 384 0) [] m'/\Ext m m':=by
 refine az fun zG=> ?_;obtain⟨a,r,l⟩:=id S;refine zG ?_;refine Ok.new ?_;refine az fun zG=> ?_;obtain⟨n0,a0,r0,o0⟩:=xC m 526;refine zG ?_;generalize (m.new (.inst 526)).new (.dO [])=m0 at n0 a0 r0 o0;dsimp only [t7];refine Ok.cps fun Q hq=> ?_;refine Ok.dc (eM rfl) (by keq_hits) ?_;have a':=(o0 _ (by exact O3 l)).trans a;have r':=(o0 _ l).trans r;lcg_off;refine Ok.gp a0 r0 (by decide) (by exact Ey n0) (i9 rfl) rfl fun m1 a1 r1 n1 o1=> ?_;have a':=(o1 _ (by exact XO l)).trans a';have r':=(o1 _ (by exact XQ l)).trans r';lcg_off;refine Ok.of (a:= .obj m1.n) (m':=m1.new (.ba (List.replicate 384 0))) rfl ?_;have q1:=(cU (m:=m1) (o:= .ba (List.replicate 384 0)) (i:=m.n) (by exact Tv n0 n1)).trans a1;have q2:=(cU (m:=m1) (o:= .ba (List.replicate 384 0)) (i:=m.n+1) (by exact XR n0 n1)).trans r1;have q3:=bc m1 (.ba (List.replicate 384 0));lcg_off;refine Ok.gp q1 q2 (by decide) (by rw [et];exact XS n0 n1) (i9 rfl) rfl fun m2 a2 r2 n2 o2=> ?_;rw [et] at n2;lcg_off;have p1:=(cU (m:=m2) (o:= .list []) (i:=m.n) (by exact XT n0 n1 n2)).trans a2;have p2:=(cU (m:=m2) (o:= .list []) (i:=m.n+1) (by exact XU n0 n1 n2)).trans r2;have p3:=bc m2 (.list []);refine Ok.gp p1 p2 (by decide) (by rw [et];exact XW n0 n1 n2) (i9 rfl) rfl fun m3 a3 r3 n3 o3=> ?_;rw [et] at n3;lcg_off;refine Ok.gp a3 r3 (by decide) (by exact XX n0 n1 n2 n3) (i9 rfl) rfl fun m4 a4 r4 n4 o4=> ?_;lcg_off;refine Ok.gp a4 r4 (by decide) (by exact XY n0 n1 n2 n3 n4) (i9 rfl) rfl fun m5 a5 r5 n5 o5=> ?_;lcg_off;refine Ok.gp a5 r5 (by decide) (by exact XZ n0 n1 n2 n3 n4 n5) (i9 rfl) rfl fun m6 a6 r6 n6 o6=> ?_;lcg_off;refine⟨rfl,rfl,⟨a6, ?_, ?_, ?_,by exact X0 n0 n1 n2 n3 n4 n5 n6⟩,by exact X1 n0 n1 n2 n3 n4 n5 n6,fun t ht=> ?_⟩
 ·rw [r6,n2,n1,n0];rfl
 ·rw [o6 _ (by exact Ez),o5 _ (by exact Ez),o4 _ (by exact Ez),o3 _ (by exact Ez),cU (by exact X2 n0 n1 n2),o2 _ (by exact Ez), <- n0, <- n1];exact q3
 ·rw [o6 _ (by exact Pg),o5 _ (by exact Pg),o4 _ (by exact Pg),o3 _ (by exact Pg),show m.n+3=m2.n by exact X3 n0 n1 n2];exact p3
 ·rw [o6 _ (by exact O1 ht),o5 _ (by exact O1 ht),o4 _ (by exact O1 ht),o3 _ (by exact O1 ht),cU (by exact X8 n0 n1 n2 ht),o2 _ (by exact O1 ht),cU (by exact X9 n0 n1 ht),o1 _ (by exact O1 ht),o0 _ ht]
theorem qd(S:dB out w r i jo jw b ws m)(hb:b.length=384):Ok (jv.1 [.obj i] m) fun v m'=>v= .int 24/\m'=m:=by
 refine az fun zG=> ?_;obtain⟨a,q,o,u,l⟩:=id S;refine zG ?_;dsimp only [jv];refine Ok.cps fun Q hq=> ?_;refine Ok.dc (eM rfl) (by keq_hits) ?_;lcg_off;refine Ok.aee o (by exact Ph hb) ?_;rw [hb];lcg_off;exact⟨rfl,rfl⟩
theorem qe(S:dB out w r i jo jw b ws m)(hb:b.length=384)(hs:c9 m sh):Ok (jx.1 [.obj i,.obj sh] m) fun v m'=>xB m m' v [.int 0,.int 13]:=by
 refine az fun zG=> ?_;obtain⟨a,q,o,u,l⟩:=id S;refine zG ?_;dsimp only [jx];refine Ok.cps fun Q hq=> ?_;refine Ok.dc (eM rfl) (by keq_hits) ?_;lcg_off;refine(qd S hb).q1 ?_;rintro _ rfl;lcg_off;refine(vM hs).q1 ?_;rintro _ rfl;lcg_off;exact .of (.refl _)
theorem lY{s k:Int}(S:dB out w r i jo jw b ws m)(hb:b.length=384)(h:0<=s/\0<=k/\s+k<=24):Ok (jU.1 [.obj i,.int s,.int k] m) fun v m'=>v= .none/\m'=m:=by
 refine az fun zG=> ?_;obtain⟨a,q,o,u,l⟩:=id S;refine zG ?_;dsimp only [jU];refine Ok.cps fun Q hq=> ?_;refine Ok.dc (eM rfl) (by keq_hits) ?_;lcg_off;refine(qd S hb).q1 ?_;rintro _ rfl;lcg_off;exact⟨rfl,rfl⟩
end
end
section
variable {i jo jw s:Nat}{m m':MH}{α:Type}{p:List UInt8}{W:List (Nat×List UInt8)}
structure eu (i jo jw:Nat) (m m':MH):Prop where
 n:m.n<=m'.n
 ob:∀t,t<m.n->t≠i+1->t≠jo->t≠jw->m'.ob t=m.ob t
theorem eu.refl(m:MH):eu i jo jw m m:=⟨dT _,fun ψ ψ ψ ψ ψ=>rfl⟩
theorem eu.trans{a b c:MH}(x:eu i jo jw a b)(y:eu i jo jw b c):eu i jo jw a c:=⟨jb x.n y.n,fun t h p q r=>(y.ob t (eD h x.n) p q r).trans (x.ob t h p q r)⟩
theorem eu.of(x:Ext m m'):eu i jo jw m m':=⟨x.n,fun t h ψ ψ ψ=>x.ob t h⟩
theorem eu.Gs(n:m'.n=m.n)(o:∀t,t≠i+1->m'.ob t=m.ob t):eu i jo jw m m':=⟨by exact aav n,fun t ψ h ψ ψ=>o t h⟩
theorem eu.NW(m:MH)(x:MO):eu i jo jw m (m.set jw x):=⟨dT _,fun t ψ ψ ψ h=>cc h⟩
theorem eu.sG(m:MH)(x:MO):eu i jo jw m (m.set jo x):=⟨dT _,fun t ψ ψ h ψ=>cc h⟩
section
variable {m m':MH}{i jo jw:Nat}{b:List UInt8}{ws:List MV}{out:Bool}{r w:Int}
theorem dB.NW(S:dB out w r i jo jw b ws m)(ws':List MV):dB out w r i jo jw b ws' (m.set jw (.list ws')):=by
 refine az fun zG=> ?_;obtain⟨n1,n2,n3,n4,n5⟩:=S.ne;refine zG ?_;exact⟨(cc n2).trans S.a,(cc n4).trans S.r,(cc n5).trans S.o,fK _ _ _,S.l⟩
theorem dB.sG(S:dB out w r i jo jw b ws m)(b':List UInt8):dB out w r i jo jw b' ws (m.set jo (.ba b')):=by
 refine az fun zG=> ?_;obtain⟨n1,n2,n3,n4,n5⟩:=S.ne;refine zG ?_;exact⟨(cc n1).trans S.a,(cc n3).trans S.r,fK _ _ _,(cc (Ne.symm n5)).trans S.w,S.l⟩
theorem dB.xD{SY:Bool}{r' w':Int}(S:dB out w r i jo jw b ws m)(n:m'.n=m.n)(o:∀t,t≠i+1->m'.ob t=m.ob t)(q:m'.ob (i+1)= .dO [("sector",.int 16),("octets",.obj jo),("waiting",.obj jw),("is_out",.bool SY),("reads",.int r'),("writes",.int w')]):dB SY w' r' i jo jw b ws m':=by
 refine az fun zG=> ?_;obtain⟨n1,n2,n3,n4,n5⟩:=S.ne;refine zG ?_;exact⟨(o _ (by exact O8)).trans S.a,q,(o _ (Ne.symm n3)).trans S.o,(o _ (Ne.symm n4)).trans S.w,by rw [n];exact S.l⟩
theorem Au{s k:Int}(S:dB true w r i jo jw b ws m)(hb:b.length=384)(h:0<=s/\0<=k/\s+k<=24):Ok (iM.1 [.obj i,.int s,.int k] m) fun v m'=>v= .none/\m'=m:=by
 refine az fun zG=> ?_;obtain⟨a,q,o,u,l⟩:=id S;refine zG ?_;dsimp only [iM];refine Ok.cps fun Q hq=> ?_;refine Ok.dc (eM rfl) (by keq_hits) ?_;lcg_off;refine(lY S hb h).q1 ?_;rintro _ rfl;lcg_off;exact⟨rfl,rfl⟩
theorem Gu(b:List α)(s k:Nat):c8 b (some ((s:Int)*16)) (some (((s:Int)+(k:Int))*16))=(b.drop (s*16)).take (k*16):=by
 have:=sU b (a:=s*16) (c:=(s+k)*16) (by exact aaw);rw [show(s+k)*16-s*16=k*16 by exact aax] at this
 push_cast at this
 exact this
theorem Bv{k:Nat}(S:dB false w r i jo jw b [] m)(hb:b.length=384)(h:s+k<=24):
  Ok (iM.1 [.obj i,.int s,.int k] m) fun v m'=>v= .bytes ((b.drop (s*16)).take (k*16))/\(∃r',dB false w r' i jo jw b [] m')/\fj (i+1) m m':=by
 refine az fun zG=> ?_;obtain⟨a,q,o,u,l⟩:=id S;refine zG ?_;dsimp only [iM];refine Ok.cps fun Q hq=> ?_;refine Ok.dc (eM rfl) (by keq_hits) ?_
 set_option tactic.hygienic true in lcg_off
 refine(lY S hb (by exact aay h)).q1 ?_
 set_option tactic.hygienic true in rintro _ rfl
 rename_i m;lcg_off;refine Ok.gp a q (by decide) (by exact Pe l) (i9 rfl) rfl fun m1 a1 r1 n1 o1=> ?_;have S1:=S.xD n1 o1 r1;refine az fun zG=> ?_;obtain⟨a',q',o',u',l'⟩:=id S1;refine zG ?_;lcg_off;refine Ok.aei o' rfl rfl (by exact Ph hb) ?_;rw [Gu];have x2:=Ext.new m1 (.ba ((b.drop (s*16)).take (k*16)));have S2:=S1.keep x2;have o2:=bc m1 (.ba ((b.drop (s*16)).take (k*16)));generalize m1.new (.ba ((b.drop (s*16)).take (k*16)))=m2 at x2 S2 o2;refine az fun zG=> ?_;obtain⟨a',q',o',u',l'⟩:=id S2;refine zG ?_;lcg_off;generalize hz:m1.n=z at o2;refine bL.forL jw [] (fun ψ fr m3=>m3=m2/\fr= [some (.obj i),some (.int s),some (.int k),some (.obj z),none,none,none]) ?_ ?_ ?_ ?_
 ·lcg_off;exact⟨rfl,rfl,rfl⟩
 ·rintro k fr _ ⟨rfl,_⟩;exact u'
 ·intro k v fr m e;exact absurd e (by simp)
 ·rintro fr _ ⟨rfl,rfl⟩;lcg_off;refine Ok.bya o2 (by rw [ie,oH];exact aaz h) ?_;lcg_off;refine⟨rfl,⟨_,S2⟩,by have:=x2.n;exact aaA n1 this,fun t h1 h2=> ?_⟩;rw [x2.ob _ (by exact RQ n1 h1),o1 _ h2]
noncomputable def ent(p:Nat×List UInt8):MV:= .tup [.int (p.1:Int),.bytes p.2]
noncomputable def fA(s:Nat)(p:List UInt8)(n:Nat):List (Nat×List UInt8):=(List.range n).map fun k=>(s+k,(p.drop (k*16)).take 16)
theorem vN(s:Nat)(p:List UInt8)(n:Nat):fA s p (n+1)=fA s p n++ [(s+n,(p.drop (n*16)).take 16)]:=by unfold fA;rw [List.range_succ,ja];rfl
theorem NX:Int.fdiv ((160:Nat):Int) 16=10:=rfl
theorem NY(b:List α)(k:Nat):c8 b (some ((k:Int)*16)) (some (((k:Int)+1)*16))=(b.drop (k*16)).take 16:=Gu b k 1
theorem Av(S:dB false w r i jo jw b (W.map ent) m)(hb:b.length=384)(hp:p.length=160)(h:s+10<=24)(hW:W.length<=1000):
  Ok (nZ.1 [.obj i,.int s,.bytes p] m) fun v m'=>(∃w',dB false w' r i jo jw b ((W++fA s p 10).map ent) m')/\eu i jo jw m m':=by
 refine az fun zG=> ?_;obtain⟨a,q,o,u,l⟩:=id S;refine zG ?_;dsimp only [nZ];refine Ok.cps fun Q hq=> ?_;refine Ok.dc (eM rfl) (by keq_hits) ?_;lcg_off;refine Ok.xy (by exact EB hp) ?_;rw [hp];lcg_off;refine Ok.xy (by exact EB hp) ?_;rw [hp]
 set_option tactic.hygienic true in lcg_off
 rw [NX];refine(lY S hb (by exact Rz h)).q1 ?_
 set_option tactic.hygienic true in rintro _ rfl
 rename_i m;lcg_off;refine bL.forR 10 (fun k fr m1=>∃z,fr= [some (.obj i),some (.int s),some (.bytes p),some (.int 10),z]/\dB false w r i jo jw b ((W++fA s p k).map ent) m1/\eu i jo jw m m1) (bR rfl) ?_ ?_ ?_
 ·lcg_off;exact⟨rfl,_,rfl,by simpa [fA] using S,.refl _⟩
 ·intro k fr m1 hk IJ J hj;refine az fun zG=> ?_;obtain⟨z,rfl,S1,x1⟩:=IJ;refine zG ?_;refine az fun zG=> ?_;obtain⟨a1,q1,o1,u1,l1⟩:=id S1;refine zG ?_;lcg_off;refine Ok.su rfl rfl (by exact EB hp) ?_;rw [NY];lcg_off;refine Ok.app u1 ⟨by simp [fA];exact aaB hW hk,l1.2.2⟩ ?_;lcg_off;refine⟨_,rfl, ?_,x1.trans (.NW _ _)⟩;have e:(W++fA s p (k+1)).map ent=(W++fA s p k).map ent++ [.tup [.int (↑s+ ↑k),.bytes ((p.drop (k*16)).take 16)]]:=by
   rw [vN, <- List.append_assoc,ja]
   congr 1
  rw [e];exact S1.NW _
 ·intro fr m1 fM;refine az fun zG=> ?_;obtain⟨z,rfl,S1,x1⟩:=fM;refine zG ?_;refine az fun zG=> ?_;obtain⟨a1,q1,o1,u1,l1⟩:=id S1;refine zG ?_;lcg_off;refine Ok.gp a1 q1 (by decide) (by exact Pe l1) (i9 rfl) rfl fun m2 a2 r2 n2 o2=> ?_;lcg_off;exact⟨⟨_,S1.xD n2 o2 r2⟩,x1.trans (.Gs n2 o2)⟩
noncomputable def putD(b:List UInt8)(p:Nat×List UInt8):List UInt8:=b.take (p.1*16)++p.2++b.drop ((p.1+1)*16)
theorem La{b:List UInt8}{p:Nat×List UInt8}(hb:b.length=384)(h:p.1<24)(hx:p.2.length=16):(putD b p).length=384:=by
 unfold putD;simp only [List.length_append,List.length_take,List.length_drop];exact aaC hb h hx
theorem D0{x:List UInt8}(S:dB out w r i jo jw b ws m)(hb:b.length=384)(h:s<24)(hx:x.length=16):
  Ok (qC.1 [.obj i,.int s,.bytes x] m) fun v m'=>m'=m.set jo (.ba (putD b (s,x))):=by
 refine az fun zG=> ?_;obtain⟨a,q,o,u,l⟩:=id S;refine zG ?_;dsimp only [qC];refine Ok.cps fun Q hq=> ?_;refine Ok.dc (eM rfl) (by keq_hits) ?_;lcg_off;have e1:((s:Int)*16).toNat=s*16:=by exact aaD
 have e2:(((s:Int)+1)*16).toNat=(s+1)*16:=by exact aaE
 refine Ok.of (a:=()) (m':=m.set jo (.ba (putD b (s,x)))) ?_ ?_
 ·refine(Ae o).trans ((if_pos ⟨by exact aaF,by exact aaG,by exact aaH hb h,by exact aaI hx e1 e2,by exact Ph hb,l.2.1⟩).trans ?_);rw [e1,e2];rfl
 lcg_off
 rfl
theorem Aw(S:dB false w r i jo jw b (W.map ent) m)(hb:b.length=384)(hW:∀p∈W,p.1<24/\p.2.length=16):
  Ok (n_.1 [.obj i] m) fun v m'=>(∃oh,m.n<=oh/\dB false w r i jo oh (W.foldl putD b) [] m')/\eu i jo jw m m':=by
 refine az fun zG=> ?_;obtain⟨a,q,o,u,l⟩:=id S;refine zG ?_;dsimp only [n_];refine Ok.cps fun Q hq=> ?_;refine Ok.dc (eM rfl) (by keq_hits) ?_;lcg_off;refine bL.forL jw (W.map ent) (fun k fr m1=>(∃z1 z2,fr= [some (.obj i),z1,z2])/\dB false w r i jo jw ((W.take k).foldl putD b) (W.map ent) m1/\((W.take k).foldl putD b).length=384/\eu i jo jw m m1) ?_ ?_ ?_ ?_
 ·lcg_off;exact⟨rfl,⟨_,_,rfl⟩,S,hb,.refl _⟩
 ·intro k fr m1 mL;refine az fun zG=> ?_;obtain⟨_,S1,_⟩:=mL;refine zG ?_;exact S1.w
 ·intro k v fr m1 e jI J hj;refine az fun zG=> ?_;obtain⟨⟨z1,z2,rfl⟩,S1,KR,x1⟩:=jI;refine zG ?_;rw [i_,nK] at e;refine az fun zG=> ?_;obtain⟨p,hp,rfl⟩:=e;refine zG ?_;obtain⟨h1,h2⟩:=hW _ (jB hp);refine az fun zG=> ?_;obtain⟨a1,q1,o1,u1,l1⟩:=id S1;refine zG ?_;unfold ent;lcg_off;refine(D0 S1 KR h1 h2).mono ?_;rintro _ m2 rfl;lcg_off;rw [cW hp,List.foldl_append];exact⟨⟨_,_,rfl⟩,S1.sG _,La KR h1 h2,x1.trans (.sG _ _)⟩
 ·intro fr m1 fM;refine az fun zG=> ?_;obtain⟨⟨z1,z2,rfl⟩,S1,KR,x1⟩:=fM;refine zG ?_;rw [eW,g_] at S1;have x2:=Ext.new m1 (.list []);have S2:=S1.keep x2;refine az fun zG=> ?_;obtain⟨a2,q2,o2,u2,l2⟩:=id S2;refine zG ?_;lcg_off;refine Ok.gp a2 q2 (by decide) (by exact Pe l2) (i9 rfl) rfl fun m3 a3 r3 n3 o3=> ?_;lcg_off;refine az fun zG=> ?_;obtain⟨n1,n2,n3',n4,n5⟩:=S2.ne;refine zG ?_;have l1:=S1.l;refine⟨⟨m1.n,x1.n,⟨a3,r3, ?_, ?_, ?_⟩⟩,x1.trans ((eu.of x2).trans (.Gs n3 o3))⟩
  ·rw [o3 _ (by exact aaJ n3' n4 n5)];exact o2
  ·rw [o3 _ (by exact aaK l1)];exact bc _ _
  ·rw [n3,et];exact aaL l1
theorem qJ(hb:b.length=384)(hp:p.length=160)(hs:s+10<=24):∀n,n<=10->(fA s p n).foldl putD b=b.take (s*16)++p.take (n*16)++b.drop ((s+n)*16)
 |0,_=>by simp [fA]
 |n+1,h=>by
  rw [vN,List.foldl_append,qJ hb hp hs n (by exact aaM h)];simp only [List.foldl_cons,List.foldl_nil];unfold putD;simp only;have l1:(b.take (s*16)).length=s*16:=by rw [ie];exact aaN hb hs
  have l2:(p.take (n*16)).length=n*16:=by rw [ie];exact aaO hp h
  have t1:(b.take (s*16)++p.take (n*16)++b.drop ((s+n)*16)).take ((s+n)*16)=b.take (s*16)++p.take (n*16):=List.take_left' (by rw [ip,l1,l2];exact aaP);have t2:(b.take (s*16)++p.take (n*16)++b.drop ((s+n)*16)).drop ((s+n+1)*16)=b.drop ((s+(n+1))*16):=by
   rw [show(s+n+1)*16=(b.take (s*16)++p.take (n*16)).length+16 by rw [ip,l1,l2];exact aaQ, <- List.drop_drop,List.drop_left' rfl,List.drop_drop]
   congr 1
   exact aaR
  have t3:p.take ((n+1)*16)=p.take (n*16)++(p.drop (n*16)).take 16:=by
   rw [show(n+1)*16=n*16+16 by exact aaS,List.take_add]
  rw [t1,t2,t3];simp only [List.append_assoc]
theorem Bw{at' v:Nat}(S:dB out w r i jo jw b ws m)(hb:b.length=384)(h1:s<24)(h2:at'<16)(h3:v<256):
  Ok (pJ.1 [.obj i,.int s,.int at',.int v] m) fun ψ m'=>m'=m.set jo (.ba (b.set (s*16+at') v.toUInt8)):=by
 refine az fun zG=> ?_;obtain⟨a,q,o,u,l⟩:=id S;refine zG ?_;dsimp only [pJ];refine Ok.cps fun Q hq=> ?_;refine Ok.dc (eM rfl) (by keq_hits) ?_
 set_option tactic.hygienic true in lcg_off
 refine(lY S hb (by exact aaT h1)).q1 ?_
 set_option tactic.hygienic true in rintro _ rfl
 rename_i m;lcg_off;have e1:((s:Int)*16+(at':Int)).toNat=s*16+at':=by exact Rl
 refine Ok.of (a:=()) (m':=m.set jo (.ba (b.set (s*16+at') v.toUInt8))) ?_ ?_
 ·show Dy _ _ jo m (m.ob jo)=_;rw [o];refine(if_pos ⟨by exact aaU e1,by exact aaV hb h1 h2,by exact Ph hb,by exact O2,by exact RR h3,l.2.1⟩).trans ?_;rw [e1,l7]
 lcg_off
 rfl
end
end
section
variable {b x:List UInt8}
section
variable {Q:MV->MH->Prop}{QB:Bool->MH->Prop}{m:MH}
noncomputable def s1(x:List UInt8):Int:=(x.map fun c=>(c.toNat:Int)).sum
noncomputable def s2(x:List UInt8):Int:=((List.range x.length).map fun(k:Nat)=>((k:Int)+1)*((x.getD k 0).toNat:Int)).sum
noncomputable def mn(x:List UInt8):List UInt8:=bO 4 ((1+s1 x).fmod 4294967296)++bO 4 ((s2 x).fmod 4294967296)
theorem Ok.aeG(h:b.length<=100000)(q:Q (.int (s1 b)) m):Ok (Jv (.bytes b) m) Q:= .of (if_pos h) q
theorem Ok.aeH{i:Nat}{ns:List Int}(o:m.ob i= .list (ns.map .int))(h:(∀n∈ns,0<=n)/\ns.sum<2 ^ 62)(q:Q (.int ns.sum) m):Ok (Jv (.obj i) m) Q:= .of ((cC o).trans ((aV (ml _)).trans (if_pos h))) q
theorem NZ(m:MH):Js (.int 2) (.int 32) m=some (.int 4294967296,m):=by rw [FY ⟨by decide,by decide,by decide⟩];rfl
theorem QH{l:List Int}{c:Int}(h:∀x∈l,x<=c):l.sum<=c*l.length:=by
 induction l with
 |nil=>simp
 |cons a r ih=>
  rw [List.sum_cons,oI];have h1:=h a rr;have h2:=ih fun x hx=>h x (List.mem_cons_of_mem _ hx)
  push_cast
  rw [Int.mul_add,Int.mul_one];exact aab h1 h2
theorem vO(hx:x.length<=1000):Ok (nh.1 [.bytes x] m) fun v m'=>v= .bytes (mn x)/\Ext m m':=by
 dsimp only [nh];refine Ok.cps fun Q hq=> ?_;refine Ok.dc (eM rfl) (by keq_hits) ?_;lcg_off;refine Ok.aeG (by exact lk hx) ?_
 set_option tactic.hygienic true in lcg_off
 refine Ok.comp x.length ⟨fun ψ=>some x.length,fun k ψ=>x[k]?.map fun c=> .tup [.int (k:Int),.int (c.toNat:Int)]⟩ (fun fr=>∃z1 z2,fr= [z1,z2])
  (fun k ys m1=>m1=m/\ys=((List.range k).map fun(k:Nat)=>((k:Int)+1)*((x.getD k 0).toNat:Int)).map MV.int) (by exact lk hx) ?_ ⟨_,_,rfl⟩ (fun ψ ψ ψ ψ ψ=>rfl) ?_ ?_
 ·lcg_off;refine Ok.of rfl ?_;exact⟨rfl,rfl,rfl⟩
 ·intro k ys fr _ hk jI gP;refine az fun zG=> ?_;obtain⟨rfl,rfl⟩:=jI;obtain⟨z1,z2,rfl⟩:=gP;refine zG ?_;refine⟨.tup [.int (k:Int),.int ((x.getD k 0).toNat:Int)], ?_, ?_⟩
  ·show Option.map _ (x[k]?)=_;rw [iP hk,pS,iP hk];rfl
  have h8:(x.getD k 0).toNat<256:=(x.getD k 0).toNat_lt;lcg_off;exact⟨⟨_,_,rfl⟩,rfl,by rw [List.range_succ,ja,ja];rfl⟩
 set_option tactic.hygienic true in rintro ys _ ⟨rfl,rfl⟩
 rename_i m;lcg_off;refine Ok.aeH (bc _ _) ⟨fun n hn=> ?_, ?_⟩ ?_
 ·rw [List.mem_map] at hn;refine az fun zG=> ?_;obtain⟨k,_,rfl⟩:=hn;refine zG ?_;exact Int.mul_nonneg (by exact aad) (by exact O2)
 ·refine Int.lt_of_le_of_lt (QH (c:=1000*255) fun n hn=> ?_) ?_
  ·rw [List.mem_map] at hn;refine az fun zG=> ?_;obtain⟨k,hk,rfl⟩:=hn;refine zG ?_;have:=List.mem_range.mp hk;have h8:(x.getD k 0).toNat<256:=(x.getD k 0).toNat_lt;exact Int.mul_le_mul (by exact aae hx this) (by exact aag h8) (by exact O2) (bR rfl)
  ·rw [eW,List.length_range]
   omega
 lcg_off;refine Ok.of (NZ _) ?_;lcg_off;have r1:=eN (1+s1 x) (k:=4294967296) (by decide);have r2:=eN (s2 x) (k:=4294967296) (by decide);refine Ok.ex (hU (k:=4) r1.1 (by exact LW r1) (by decide) _) fun m1 x1=> ?_;lcg_off;refine Ok.of (NZ _) ?_;lcg_off;refine Ok.ex (hU (k:=4) r2.1 (by exact LW r2) (by decide) _) fun m2 x2=> ?_;lcg_off;refine Ok.Gh (by rw [aw,aw];exact aah) ?_;lcg_off;exact⟨rfl,((Ext.new _ _).trans x1).trans x2⟩
theorem IK{n:Nat}(h:x.length<=n)(hn:n<=1000):Ok (uz.1 [.bytes x,.int n] m) fun v m'=>v= .bytes (x++List.replicate (n-x.length) 0)/\m'=m:=by
 dsimp only [uz];refine Ok.cps fun Q hq=> ?_;refine Ok.dc (eM rfl) (by keq_hits) ?_;lcg_off;refine Ok.xy (by exact RP h hn) ?_;lcg_off;refine Ok.xy (by exact RP h hn) ?_;lcg_off;refine Ok.byi (by exact aai h hn) ?_;lcg_off;refine Ok.Gh (by rw [List.length_replicate];exact aaj h hn) ?_;lcg_off;exact⟨by rw [show((n:Int)-(x.length:Int)).toNat=n-x.length by exact aak h],rfl⟩
noncomputable def sH(b:List UInt8):List UInt8:=bO 4 b.length++b
noncomputable def eV(b:List UInt8):List UInt8:=(mn (sH b)++sH b)++List.replicate (160-(12+b.length)) 0
theorem nI(x:List UInt8):(mn x).length=8:=by unfold mn;rw [ip,aw,aw]
theorem qK(b:List UInt8):(sH b).length=4+b.length:=by unfold sH;rw [ip,aw]
theorem iy(h:b.length<=148):(eV b).length=160:=by
 unfold eV;rw [ip,ip,nI,qK,List.length_replicate];exact aal h
theorem yq{sh:Nat}(S:c9 m sh)(hb:b.length<=148):Ok (mH.1 [.obj sh,.bytes b] m) fun v m'=>v= .bytes (eV b)/\Ext m m':=by
 refine az fun zG=> ?_;obtain⟨a,r,l⟩:=id S;refine zG ?_;dsimp only [mH];refine Ok.cps fun Q hq=> ?_;refine Ok.dc (eM rfl) (by keq_hits) ?_
 set_option tactic.hygienic true in lcg_off
 refine(kl S).q1 ?_
 set_option tactic.hygienic true in rintro _ rfl
 rename_i m;lcg_off;refine Ok.xy (by exact lk hb) ?_;lcg_off;refine Ok.xy (by exact lk hb) ?_;lcg_off;refine Ok.ex (hU (n:=(b.length:Int)) (k:=4) (by exact O2) (by exact TC hb) (by decide) _) fun m1 x1=> ?_;lcg_off;refine Ok.Gh (by rw [aw];exact aam hb) ?_;lcg_off;refine(vO (x:=sH b) (by rw [qK];exact Pn hb)).q1 ?_;intro m2 x2;lcg_off;refine Ok.Gh (by rw [ip,aw,nI];exact aan hb) ?_;lcg_off;refine(IK (x:=mn (sH b)++sH b) (n:=160) (by rw [ip,qK,nI];exact aao hb) (bR rfl)).q1 ?_;rintro _ rfl;lcg_off;refine⟨?_,x1.trans x2⟩;unfold eV;rw [ip,qK,nI,show 8+(4+b.length)=12+b.length by exact aap]
end
end
section
variable {x:List UInt8}{s:Nat}
theorem bL.IL{ci:av->MM Src}{tg:MV->SM}{body:SM}{fr:av}{m:MH}{Q:eG->av->MH->Prop}(xs:List MV)(I:Nat->Nat->av->MH->Prop)(hc:Ok (ci fr m) fun src m1=>∃i,src=srcOf (.obj i)/\I i 0 fr m1)(ho:∀i k fr m,I i k fr m->m.ob i= .list xs)
  (step:∀i k v fr m,xs[k]? =some v->I i k fr m->∀J,(∀fr m,I i (k+1) fr m->J fr m)->bL (tg v fr m) (IC body (pL J Q)))(done:∀i fr m,I i xs.length fr m->Q .next fr m):bL (SM.forIn ci tg body fr m) Q:=by
 refine az fun zG=> ?_;obtain⟨src,m1,e,i,h1,h2⟩:=hc;refine zG ?_;exact bL.forL i xs (I i) ⟨src,m1,e,h1,h2⟩ (ho i) (step i) (done i)
theorem qL(a b c d:UInt8):numOf [a,b,c,d]=(a.toNat:Int)+b.toNat*256+c.toNat*65536+d.toNat*16777216:=by
 have e (x y z u v:Int) (hv:v=1) (hx:x=256) (hy:y=65536) (hz:z=16777216):(a.toNat:Int)*v+((b.toNat:Int)*x+((c.toNat:Int)*y+((d.toNat:Int)*z+0)))=(a.toNat:Int)+b.toNat*256+c.toNat*65536+d.toNat*16777216:=by
  rw [hv,hx,hy,hz,Int.mul_one,Int.add_zero];exact Zi
 exact e (2 ^ (8*1)) (2 ^ (8*2)) (2 ^ (8*3)) 0 (2 ^ (8*0)) rfl rfl rfl rfl
theorem ti{x:List α}{n:Nat}(h:x.length=n+1):∃a r,r.length=n/\x=a::r:=by
 cases x with
 |nil=>cases h
 |cons a r=>exact⟨a,r,Nat.succ.inj h,rfl⟩
theorem four(h:x.length=4):∃a b c d,x= [a,b,c,d]:=by
 obtain⟨a,x1,h1,rfl⟩:=ti h;obtain⟨b,x2,h2,rfl⟩:=ti h1;obtain⟨c,x3,h3,rfl⟩:=ti h2;obtain⟨d,x4,h4,rfl⟩:=ti h3;cases x4 with
 |nil=>exact⟨a,b,c,d,rfl⟩
 |cons a r=>cases h4
theorem D3{a v:α}{k:Nat}(e: [a][k]? =some v):k=0/\a=v:=by
 cases k with
 |zero=>exact⟨rfl,dZ e⟩
 |succ k=>cases e
theorem JT{k:Nat}{v:MV}(e: [MV.int 0,.int 13][k]? =some v):∃s:Nat,v= .int s/\s<=13/\((k=0/\s=0)\/(k=1/\s=13)):=by
 cases k with
 |zero=>exact⟨0,(dZ e).symm,bR rfl,.inl ⟨rfl,rfl⟩⟩
 |succ k=>exact⟨13,(D3 e).2.symm,bR rfl,.inr ⟨congrArg Nat.succ (D3 e).1,rfl⟩⟩
theorem IM(h:x.length=4):0<=numOf x/\numOf x<2 ^ 32:=by
 refine az fun zG=> ?_;obtain⟨a,b,c,d,rfl⟩:=four h;refine zG ?_;rw [qL];have:=a.toNat_lt;have:=b.toNat_lt;have:=c.toNat_lt;have:=d.toNat_lt;exact Zj (by assumption) (by assumption) (by assumption) this
noncomputable def h_(p:List UInt8):Nat:=(numOf ((p.drop 8).take 4)).toNat
noncomputable def ia(p:List UInt8):MV:=if 12+h_ p<=160/\mn ((p.drop 8).take (4+h_ p))=p.take 8 then .bytes ((p.drop 12).take (h_ p)) else .none
section
variable {m m':MH}{i jo jw sh:Nat}{b:List UInt8}{ws:List MV}{out:Bool}{r w:Int}
theorem Bx{p:List UInt8}(hp:p.length=160):Ok (pK.1 [.bytes p] m) fun v m'=>v=ia p/\Ext m m':=by
 have h4:((p.drop 8).take 4).length=4:=by rw [ie,oH];exact Zk hp
 obtain⟨n1,n2⟩:=IM h4;have hN:numOf ((p.drop 8).take 4)=(h_ p:Int):=by unfold h_;exact Pj n1
 dsimp only [pK];refine Ok.cps fun Q hq=> ?_;refine Ok.dc (eM rfl) (by keq_hits) ?_;lcg_off;refine Ok.su rfl rfl (by exact EB hp) ?_;have e1:c8 p (some 8) (some (8+4))=(p.drop 8).take 4:=sU p (a:=8) (c:=12) (bR rfl);rw [e1];lcg_off;refine Ok.ex (iF (by rw [h4];exact O4) (by exact Zl n2) m) fun m1 x1=> ?_;rw [hN];lcg_off;refine Ok.xy (by exact EB hp) ?_
 by_cases hl:12+h_ p<=160
 ·have e2:c8 p (some 8) (some (8+4+(h_ p:Int)))=(p.drop 8).take (4+h_ p):=by
   have:=sU p (a:=8) (c:=12+h_ p) (by exact Zm);rw [show 12+h_ p-8=4+h_ p by exact Zn] at this
   push_cast at this
   rw [show(8:Int)+4+h_ p=12+h_ p by exact Ry];exact this
  have e3:c8 p (some (8+4)) (some (8+4+(h_ p:Int)))=(p.drop 12).take (h_ p):=by
   have:=sU p (a:=12) (c:=12+h_ p) (by exact Zo);rw [show 12+h_ p-12=h_ p by exact Zp] at this
   push_cast at this
   rw [show(8:Int)+4+h_ p=12+h_ p by exact Ry];exact this
  have e4:c8 p none (some 8)=p.take 8:=uo p 8;lcg_off;refine Ok.su rfl rfl (by exact EB hp) ?_;rw [e2];lcg_off;refine(vO (by rw [ie];exact Zq hl)).q1 ?_;intro m2 x2;lcg_off;refine Ok.su rfl rfl (by exact EB hp) ?_;rw [e4];lcg_off;refine Ok.eqb ?_
  by_cases hs:mn ((p.drop 8).take (4+h_ p))=p.take 8
  ·rw [show(mn ((p.drop 8).take (4+h_ p))==p.take 8)=true by rw [hs];exact beq_self_eq_true _];lcg_off;refine Ok.su rfl rfl (by exact EB hp) ?_;rw [e3];lcg_off;exact⟨by unfold ia;rw [if_pos ⟨hl,hs⟩],x1.trans x2⟩
  ·rw [show(mn ((p.drop 8).take (4+h_ p))==p.take 8)=false from beq_false_of_ne hs];lcg_off;exact⟨by unfold ia;rw [if_neg fun h=>hs h.2],x1.trans x2⟩
 ·lcg_off;exact⟨by unfold ia;rw [if_neg fun h=>hl h.1],x1⟩
theorem D4(p:List UInt8):ia p= .none\/∃x,ia p= .bytes x:=by
 unfold ia
 split
 ·exact .inr ⟨_,rfl⟩
 ·exact .inl rfl
noncomputable def tell(b:List UInt8)(out:Bool):MV:=if out=true then .none else match ia (b.take 160) with
 | .none=>ia ((b.drop 208).take 160)
 |v=>v
theorem c9.Vq{m2:MH}(S:dB out w r i jo jw b ws m)(h:c9 m sh)(x:fj (i+1) m m2):c9 m2 sh:=by
 refine az fun zG=> ?_;obtain⟨a,q,l⟩:=h;refine zG ?_;refine⟨(x.ob _ (by exact O3 l) fun e=> ?_).trans a,(x.ob _ l fun e=> ?_).trans q,eD l x.n⟩
 ·rw [e,S.r] at a;cases a
 ·obtain rfl:sh=i:=by exact Tn e
  rw [S.a] at a;injection a with a;exact absurd a (bR rfl)
theorem Lb(hb:b.length=384)(hs:s<=14):((b.drop (s*16)).take (10*16)).length=160:=by rw [ie,oH];exact Zr hb hs
noncomputable def wQ(b:List UInt8)(out:Bool)(s:Nat):MV:=if out=true then .none else ia ((b.drop (s*16)).take (10*16))
theorem Ax(S:dB out w r i jo jw b [] m)(hb:b.length=384)(h:s+10<=24):
  Ok (iM.1 [.obj i,.int s,.int 10] m) fun v m'=>v=(if out=true then .none else .bytes ((b.drop (s*16)).take (10*16)))/\(∃r',dB out w r' i jo jw b [] m')/\fj (i+1) m m':=by
 cases out with
 |true=>
  refine(Au S hb (by exact Rz h)).q1 ?_;rintro _ rfl;exact⟨rfl,⟨_,S⟩,.refl _⟩
 |false=>exact Bv (k:=10) S hb h
theorem yr(S:dB out w r i jo jw b [] m)(hb:b.length=384)(hs:c9 m sh):
  Ok (gx.1 [.obj i,.obj sh] m) fun v m'=>v=tell b out/\(∃r',dB out w r' i jo jw b [] m')/\fj (i+1) m m':=by
 have ht:tell b out=match wQ b out 0 with
   | .none=>wQ b out 13
   |v=>v:=by
  delta tell wQ;cases out <;> rfl
 dsimp only [gx];refine Ok.cps fun Q hq=> ?_;refine Ok.dc (eM rfl) (by keq_hits) ?_;lcg_off;refine bL.IL [.int 0,.int 13] (fun lo k fr m1=>(∃z1 z2 z3,fr= [some (.obj i),some (.obj sh),z1,z2,z3])/\(∃r',dB out w r' i jo jw b [] m1)/\c9 m1 sh/\fj (i+1) m m1/\m.n<=lo/\lo<m1.n/\m1.ob lo= .list [.int 0,.int 13]/\(1<=k->wQ b out 0= .none)/\(2<=k->wQ b out 13= .none)) ?_ ?_ ?_ ?_
 ·lcg_off;refine(qe S hb hs).nl ?_;intro o m1 h1 h2 h3 x1;lcg_off;exact⟨_,rfl,⟨_,_,_,rfl⟩,⟨_,S.keep x1⟩,hs.keep x1,.of x1,h1,h2,h3,by omega,by omega⟩
 ·intro lo k fr m1 IJ;refine az fun zG=> ?_;obtain⟨_,_,_,_,_,_,h,_⟩:=IJ;refine zG ?_;exact h
 ·intro lo k v fr m1 e gP J hj;refine az fun zG=> ?_;obtain⟨⟨z1,z2,z3,rfl⟩,⟨r1,S1⟩,rQ,x1,qM,mM,uZ,t0,t1⟩:=gP;refine zG ?_;obtain⟨s,rfl,JU,ue⟩:=JT e;refine az fun zG=> ?_;obtain⟨a1,q1,_,_,l1⟩:=id S1;refine zG ?_;have hL:=S.l
  set_option tactic.hygienic true in lcg_off
  refine(kl rQ).q1 ?_
  set_option tactic.hygienic true in rintro _ rfl
  rename_i m1;lcg_off;refine(Ax S1 hb (by exact RA JU)).q2 ?_;rintro m2 ⟨r2,S2⟩ x2;have wy:=c9.Vq S1 rQ x2;have pj:=(x2.ob _ mM (by exact Zs qM hL)).trans uZ;have oG:=x2.n;cases out with
  |true=>
   rw [if_pos rfl];lcg_off;refine Ok.of (a:=true) rfl ?_;lcg_off;refine Ok.of (a:=true) rfl ?_;lcg_off;exact⟨⟨_,_,_,rfl⟩,⟨_,S2⟩,wy,x1.trans x2,qM,by exact He mM oG,pj,fun ψ=>rfl,fun ψ=>rfl⟩
  |false=>
   rw [if_neg (by decide)];lcg_off;refine Ok.of (a:=false) rfl ?_;lcg_off;refine(Bx (Lb hb (by exact lk JU))).q1 ?_;intro m3 x3;have e1:wQ b false s=ia ((b.drop (s*16)).take (10*16)):=if_neg (by decide);rw [<- e1];have wR:=x3.n;rcases D4 ((b.drop (s*16)).take (10*16)) with h|⟨y,h⟩
   ·rw [<- e1] at h;rw [h];lcg_off;refine Ok.of (a:=true) rfl ?_;lcg_off;refine⟨⟨_,_,_,rfl⟩,⟨_,S2.keep x3⟩,wy.keep x3,(x1.trans x2).trans (.of x3),qM,by exact RC mM oG wR,(x3.ob _ (by exact He mM oG)).trans pj,fun ψ=> ?_,fun ψ=> ?_⟩
    ·rcases ue with⟨rfl,rfl⟩|⟨rfl,rfl⟩
     ·exact h
     ·exact t0 (by decide)
    ·rcases ue with⟨rfl,rfl⟩|⟨rfl,rfl⟩
     ·omega
     ·exact h
   ·rw [<- e1] at h;rw [h];lcg_off;refine Ok.of (a:=false) rfl ?_;lcg_off;refine⟨?_,⟨_,S2.keep x3⟩,(x1.trans x2).trans (.of x3)⟩;rw [ht];rcases ue with⟨rfl,rfl⟩|⟨rfl,rfl⟩
    ·rw [h]
    ·rw [t0 (by decide),h]
 ·intro lo fr m1 mL;refine az fun zG=> ?_;obtain⟨⟨z1,z2,z3,rfl⟩,⟨r1,S1⟩,rQ,x1,qM,mM,uZ,t0,t1⟩:=mL;refine zG ?_;lcg_off;refine⟨?_,⟨_,S1⟩,x1⟩;rw [ht,t0 (bR rfl),t1 (bR rfl)]
end
end
section
variable {v x:MV}{C:d_}{g:Int}{P:List UInt8}{d:Nat}
section
variable {Q:MV->MH->Prop}{QB:Bool->MH->Prop}{m m0 m':MH}{i jo jw sh:Nat}{b:List UInt8}{ws:List MV}{out:Bool}{r w:Int}
theorem wU(h:eY m v C)(hC:ConfOK C)(hg:Aq g):Ok (lH.1 [.int g,v] m) fun u m'=>u= .bytes (bO 4 g++gm C)/\Ext m m':=by
 have hc:=qc hC;dsimp only [lH];refine Ok.cps fun Q hq=> ?_;refine Ok.dc (eM rfl) (by keq_hits) ?_;lcg_off;refine Ok.ex (hU (k:=4) hg.1 (by have:=hg.2;exact TB this) (bR rfl) m) fun m1 x1=> ?_;lcg_off;refine(oZ (h.keep (.of x1)) hC).q1 ?_;intro m2 x2;lcg_off;refine Ok.Gh (by rw [aw];exact Hc hc) ?_;lcg_off;exact⟨rfl,x1.trans x2⟩
theorem Gv(s:Nat)(p:List UInt8)(n:Nat):(fA s p n).length=n:=by simp [fA]
theorem Ext.only(x:Ext m0 m)(h:m0.n<=i/\m0.n<=jo/\m0.n<=jw)(y:eu i jo jw m m'):Ext m0 m':=⟨jb x.n y.n,fun t ht=>(y.ob t (eD ht x.n) (by exact abf h ht) (by exact abg h ht) (by exact abh h ht)).trans (x.ob t ht)⟩
theorem Ay{X:List UInt8}{W:List (Nat×List UInt8)}(x0:Ext m0 m)(h0:m0.n<=i/\m0.n<=jo/\m0.n<=jw)(hs:c9 m0 sh)(S:dB false w r i jo jw b (W.map ent) m)(hb:b.length=384)(hX:X.length<=148)(hW:W.length<=100):
  Ok (oa.1 [.obj i,.obj sh,.bytes X] m) fun ψ m'=>(∃w',dB false w' r i jo jw b ((W++fA 0 (eV X) 10++fA 13 (eV X) 10).map ent) m')/\eu i jo jw m m':=by
 have hP:=iy hX;dsimp only [oa];refine Ok.cps fun Q hq=> ?_;refine Ok.dc (eM rfl) (by keq_hits) ?_;lcg_off;refine(yq (hs.keep x0) hX).q1 ?_;intro m1 x1;have S1:=S.keep x1;have hL:=S.l;lcg_off;refine bL.IL [.int 0,.int 13] (fun lo k fr m2=>(∃z,fr= [some (.obj i),some (.obj sh),some (.bytes X),some (.bytes (eV X)),z])/\(∃w',dB false w' r i jo jw b ((W++(if 1<=k then fA 0 (eV X) 10 else [])++(if 2<=k then fA 13 (eV X) 10 else [])).map ent) m2)/\eu i jo jw m m2/\m.n<=lo/\lo<m2.n/\m2.ob lo= .list [.int 0,.int 13]) ?_ ?_ ?_ ?_
 ·lcg_off;refine(qe S1 hb ((hs.keep x0).keep x1)).nl ?_;intro o m2 h1 h2 h3 x2;lcg_off;exact⟨_,rfl,⟨_,rfl⟩,⟨_,by simpa using S1.keep x2⟩,.of (x1.trans x2),by have:=x1.n;exact abi h1 this,h2,h3⟩
 ·intro lo k fr m2 IJ;refine az fun zG=> ?_;obtain⟨_,_,_,_,_,h⟩:=IJ;refine zG ?_;exact h
 ·intro lo k v fr m2 e gP J hj;refine az fun zG=> ?_;obtain⟨⟨z,rfl⟩,⟨w2,S2⟩,x2,qM,Cw,pj⟩:=gP;refine zG ?_;refine az fun zG=> ?_;obtain⟨a2,q2,_,_,l2⟩:=id S2;refine zG ?_;obtain⟨s,rfl,JU,ue⟩:=JT e;lcg_off;refine(Av (s:=s) S2 hb hP (by exact RA JU) ?_).mono ?_
  ·rw [ip,ip]
   split <;> split <;> simp [Gv] <;> omega
  intro v m3 fM;refine az fun zG=> ?_;obtain⟨⟨w3,S3⟩,x3⟩:=fM;refine zG ?_;lcg_off;refine⟨⟨_,rfl⟩,⟨w3, ?_⟩,x2.trans x3,qM,by have:=x3.n;exact He Cw this,(x3.ob _ Cw (by exact TH hL qM) (by exact TJ hL qM) (by exact TK hL qM)).trans pj⟩;rcases ue with⟨rfl,rfl⟩|⟨rfl,rfl⟩
  ·simpa using S3
  ·simpa using S3
 ·intro lo fr m2 mL;refine az fun zG=> ?_;obtain⟨⟨z,rfl⟩,⟨w2,S2⟩,x2,qM,Cw,pj⟩:=mL;refine zG ?_;lcg_off;exact⟨⟨_,S2⟩,x2⟩
noncomputable def iX(P b:List UInt8):List UInt8:=(P++b.drop 160).take 208++P++(P++b.drop 160).drop 368
theorem Vr(hb:b.length=384)(hP:P.length=160):(fA 0 P 10++fA 13 P 10).foldl putD b=iX P b:=by
 rw [List.foldl_append,qJ hb hP (by decide) 10 (by decide)];have h1:b.take (0*16)++P.take (10*16)++b.drop ((0+10)*16)=P++b.drop 160:=by
  rw [show(0*16)=0 from rfl,List.take_zero,List.nil_append,qP (by exact RV hP)]
 rw [h1,qJ (by rw [ip,oH];exact abj hb hP) hP (by decide) 10 (by decide)];unfold iX;rw [qP (l:=P) (by exact RV hP)]
theorem Az{s:Nat}(hP:P.length=160)(hs:s+10<=24):∀p∈fA s P 10,p.1<24/\p.2.length=16:=fun p hp=>by
 unfold fA at hp;rw [List.mem_map] at hp;refine az fun zG=> ?_;obtain⟨k,hk,rfl⟩:=hp;refine zG ?_;have:=List.mem_range.mp hk;exact⟨by simp only;exact abk hs this,by simp only [List.length_take,List.length_drop];exact abl hP this⟩
theorem Ok.N9(o:m.ob d= .dict [(g,x)])(q:Q (.obj m.n) (m.new (.list [.int g]))):Ok (zW (.obj d) m) Q:= .of (a:= .obj m.n) (m':=m.new (.list [.int g])) ((Af o).trans (if_pos (i9 rfl))) q
theorem Ok.S_{es:List (Int×MV)}(o:m.ob d= .dict es)(e:lz g es=some x)(q:Q x m):Ok (zN (.obj d) (.int g) m) Q:= .of (by show zM g m (m.ob d)=_;rw [o];exact aV e) q
theorem wV{dd:Nat}(x0:Ext m0 m)(h0:m0.n<=i/\m0.n<=jo/\m0.n<=jw)(hs:c9 m0 sh)(hc:eY m0 v C)(hC:ConfOK C)(hg:Aq g)(hl:4+(gm C).length<=148)
  (S:dB false w r i jo jw b [] m)(hb:b.length=384)(hd:m.ob dd= .dict [(g,.obj i)])(C6:dd<m.n):
  Ok (lI.1 [.obj dd,v,.obj sh] m) fun ψ m'=>(∃oh w',m0.n<=oh/\dB false w' r i jo oh (iX (eV (bO 4 g++gm C)) b) [] m')/\Ext m0 m':=by
 have Lc:(bO 4 g++gm C).length<=148:=by rw [ip,aw];exact abm hl
 have hP:=iy Lc;have hL:=S.l;have hdi:dd≠i+1:=fun e=>by rw [e,S.r] at hd;cases hd
 have hdo:dd≠jo:=fun e=>by rw [e,S.o] at hd;cases hd
 have hdw:dd≠jw:=fun e=>by rw [e,S.w] at hd;cases hd
 have u7:lz g [(g,MV.obj i)]=some (.obj i):=if_pos rfl;dsimp only [lI];refine Ok.cps fun Q hq=> ?_;refine Ok.dc (eM rfl) (by keq_hits) ?_;lcg_off;refine bL.IL [.int g] (fun lo k fr m2=>(∃z,fr= [some (.obj dd),some v,some (.obj sh),z])/\Ext m0 m2/\m2.ob lo= .list [.int g]/\(k=0->dB false w r i jo jw b [] m2/\m2.ob dd= .dict [(g,.obj i)]/\m.n<=lo/\lo<m2.n/\m.n<=m2.n)/\(k=1->∃oh w',m0.n<=oh/\dB false w' r i jo oh (iX (eV (bO 4 g++gm C)) b) [] m2)) ?_ ?_ ?_ ?_
 ·lcg_off;refine Ok.N9 hd ?_;lcg_off;have x1:=Ext.new m (.list [.int g]);exact⟨_,rfl,⟨_,rfl⟩,x0.trans x1,bc _ _,fun ψ=>⟨S.keep x1,(x1.ob _ C6).trans hd,dT _,gA _,x1.n⟩,by omega⟩
 ·intro lo k fr m2 IJ;refine az fun zG=> ?_;obtain⟨_,_,h,_⟩:=IJ;refine zG ?_;exact h
 ·intro lo k u fr m2 e gP J hj;refine az fun zG=> ?_;obtain⟨⟨z,rfl⟩,x2,pj,h2,_⟩:=gP;refine zG ?_;obtain⟨rfl,rfl⟩:=D3 e;refine az fun zG=> ?_;obtain⟨S2,hd2,qM,Gw,D5⟩:=h2 rfl;refine zG ?_;lcg_off;refine Ok.S_ hd2 u7 ?_;lcg_off;refine(wU (hc.keep (.of x2)) hC hg).q1 ?_;intro m3 x3;have S3:=S2.keep x3;lcg_off;refine(Ay (W:= []) (x2.trans x3) h0 hs S3 hb Lc (by simp)).k2 ?_;rintro _ m4 ⟨w4,S4⟩ x4;have wR:=x3.n;have hd4:=(x4.ob _ (by exact abn C6 qM Gw wR) hdi hdo hdw).trans ((x3.ob _ (by exact He C6 D5)).trans hd2);have Un:=(x4.ob _ (by exact He Gw wR) (by exact TH hL qM) (by exact TJ hL qM) (by exact TK hL qM)).trans ((x3.ob _ Gw).trans pj);refine az fun zG=> ?_;obtain⟨a4,q4,_,_,l4⟩:=id S4;refine zG ?_;lcg_off;refine Ok.S_ hd4 u7 ?_;lcg_off;refine(Aw S4 hb (fun p hp=> ?_)).mono ?_
  ·rw [List.nil_append] at hp;rcases List.mem_append.mp hp with h|h
   ·exact Az hP (by decide) p h
   ·exact Az hP (by decide) p h
  intro _ m5 fM;refine az fun zG=> ?_;obtain⟨⟨oh,D6,S5⟩,x5⟩:=fM;refine zG ?_;lcg_off;have wM:=x4.n;have e5:=((x2.trans x3).only h0 x4).only h0 x5;rw [List.nil_append,Vr hb hP] at S5;refine⟨⟨_,rfl⟩,e5,(x5.ob _ (by exact RC Gw wR wM) (by exact TH hL qM) (by exact TJ hL qM) (by exact TK hL qM)).trans Un,by omega,fun ψ=>⟨oh,w4,by have:=x0.n;exact abo h0 hL qM Gw wR D6 wM,S5⟩⟩
 ·intro lo fr m2 mL;refine az fun zG=> ?_;obtain⟨⟨z,rfl⟩,x2,pj,_,h3⟩:=mL;refine zG ?_;lcg_off;exact⟨h3 rfl,x2⟩
end
end
section
variable {α:Type}{n:Nat}{L R S:List UInt8}
theorem D7(a b:List α)(d:α)(n:Nat)(h:n<a.length):(a++b).getD n d=a.getD n d:=by
 rw [pS,pS,List.getElem?_append_left h]
theorem JV(a b:List α)(d:α)(n:Nat)(h:a.length<=n):(a++b).getD n d=b.getD (n-a.length) d:=by
 rw [pS,pS,List.getElem?_append_right h]
theorem om(a:UInt8)(l:List UInt8):s1 (a::l)=a.toNat+s1 l:=by unfold s1;simp
theorem lL(a b:List UInt8):s1 (a++b)=s1 a+s1 b:=by unfold s1;simp
theorem IP(a:List UInt8):0<=s1 a:=by
 induction a with
 |nil=>exact Int.le_refl _
 |cons x r ih=>rw [om];exact abA ih
theorem N_(a:List UInt8):s1 a<=255*a.length:=by
 induction a with
 |nil=>exact Int.le_refl _
 |cons x r ih=>
  rw [om,oI];have:=x.toNat_lt
  push_cast
  exact abB ih this
theorem Oa(k:Nat):s1 (List.replicate k 0)=0:=by
 induction k with
 |zero=>rfl
 |succ k ih=>rw [List.replicate_succ,om,ih];rfl
theorem JW:∀(l:List UInt8) (i:Nat) (v:UInt8),i<l.length->s1 (l.set i v)+(l.getD i 0).toNat=s1 l+v.toNat
 | [],_,_,h=>by simp at h
 |a::r,0,v,h=>by rw [List.set_cons_zero,om,om,List.getD_cons_zero];exact abC
 |a::r,i+1,v,h=>by
  rw [List.set_cons_succ,om,om,List.getD_cons_succ];have:=JW r i v (by simpa using h);exact abD this
theorem Gx{A B:List UInt8}(hA:A.length<=1000)(hB:B.length<=1000)(h:s1 A≠s1 B):mn A≠mn B:=fun e=>by
 unfold mn at e;have e1:=congrArg (List.take 4) e;rw [List.take_left' (aw _ _),List.take_left' (aw _ _)] at e1;have a1:=IP A;have a2:=N_ A;have b1:=IP B;have b2:=N_ B;have r1:=eN (1+s1 A) (k:=4294967296) (by decide);have r2:=eN (1+s1 B) (k:=4294967296) (by decide);have e2:=congrArg numOf e1;rw [fy r1.1 (by exact LW r1),fy r2.1 (by exact LW r2),Int.fmod_eq_emod_of_nonneg _ (bR rfl),Int.fmod_eq_emod_of_nonneg _ (bR rfl)] at e2;exact abE hA hB h a1 a2 b1 b2 e2
theorem IQ{a b:UInt8}(h:a≠b):a.toNat≠b.toNat:=fun e=>h (UInt8.toNat_inj.mp e)
theorem QI(h:n<256):bO 4 (n:Int)= [n.toUInt8,0,0,0]:=by
 have e:∀p,1<=p->p<4->(((n:Int).fdiv (2 ^ (8*p))).fmod 256).toNat.toUInt8=0:=fun p h1 h4=>by
  have:(n:Int).fdiv (2 ^ (8*p))=0:=by
   rw [Int.fdiv_eq_ediv_of_nonneg _ (Int.le_of_lt (Int.pow_pos (bR rfl)))];refine Int.ediv_eq_zero_of_lt (by exact O2) ?_;have h8:p=1\/p=2\/p=3:=by exact abF h1 h4
   rcases h8 with rfl|rfl|rfl <;> omega
  rw [this];rfl
 have e0:(((n:Int).fdiv (2 ^ (8*0))).fmod 256).toNat.toUInt8=n.toUInt8:=by
  have h1:(n:Int).fdiv (2 ^ (8*0))=n:=by
   exact Int.fdiv_one _
  rw [h1,Int.fmod_eq_emod_of_nonneg _ (bR rfl),Int.emod_eq_of_lt (by exact O2) (by exact RR h),l7]
 show [(((n:Int).fdiv (2 ^ (8*0))).fmod 256).toNat.toUInt8,(((n:Int).fdiv (2 ^ (8*1))).fmod 256).toNat.toUInt8,(((n:Int).fdiv (2 ^ (8*2))).fmod 256).toNat.toUInt8,(((n:Int).fdiv (2 ^ (8*3))).fmod 256).toNat.toUInt8]=_;rw [e 1 (bR rfl) (bR rfl),e 2 (bR rfl) (bR rfl),e 3 (bR rfl) (bR rfl),e0]
theorem toU8_nat(h:n<256):n.toUInt8.toNat=n:=(UInt8.toNat_ofNat' (n:=n)).trans (Nat.mod_eq_of_lt h)
section
variable {X:List UInt8}
theorem qf{Y Z:List UInt8}(hS:S.length=8)(hL:L.length=4)(hn:numOf L=(n:Int))(h:12+n<=160):
  ia (S++(L++R))=if mn (L++R.take n)=S then .bytes (R.take n) else .none:=by
 have d8:(S++(L++R)).drop 8=L++R:=List.drop_left' hS;have t4:((S++(L++R)).drop 8).take 4=L:=by rw [d8];exact List.take_left' hL
 have hl:h_ (S++(L++R))=n:=by unfold h_;rw [t4,hn];exact l7 n
 have t8:(S++(L++R)).take 8=S:=List.take_left' hS;have d12:(S++(L++R)).drop 12=R:=by rw [show 12=8+4 from rfl, <- List.drop_drop,d8];exact List.drop_left' hL
 have tn:((S++(L++R)).drop 8).take (4+n)=L++R.take n:=by
  rw [d8, <- hL,List.take_length_add_append]
 unfold ia;rw [hl,tn,t8,d12]
 by_cases q:mn (L++R.take n)=S
 ·rw [if_pos ⟨h,q⟩,if_pos q]
 ·rw [if_neg fun z=>q z.2,if_neg q]
theorem AA(hS:S.length=8)(hL:L.length=4)(hn:148<numOf L):ia (S++(L++R))= .none:=by
 have d8:(S++(L++R)).drop 8=L++R:=List.drop_left' hS;have t4:((S++(L++R)).drop 8).take 4=L:=by rw [d8];exact List.take_left' hL
 have hl:148<h_ (S++(L++R)):=by unfold h_;rw [t4];exact abG hn
 exact if_neg fun z=>by omega
theorem Cf(X:List UInt8):eV X=mn (bO 4 X.length++X)++(bO 4 X.length++(X++List.replicate (160-(12+X.length)) 0)):=by
 unfold eV sH;simp only [List.append_assoc]
theorem sI(hX:X.length<=148):ia (eV X)= .bytes X:=by
 rw [Cf,qf (n:=X.length) (Y:= []) (Z:= []) (nI _) (aw _ _) (fy (by exact O2) (by exact TC hX)) (by exact TM hX),List.take_left' rfl,if_pos rfl]
theorem Gy(hX:X.length<=148){a:Nat}{v:UInt8}(ha:a<160)(hv:v≠(eV X).getD a 0):ia ((eV X).set a v)=if a<12+X.length then .none else .bytes X:=by
 have hS:=nI (bO 4 X.length++X);have hL:=aw X.length 4;have hN:numOf (bO 4 X.length)=(X.length:Int):=fy (by exact O2) (by exact TC hX);rw [Cf] at hv ⊢
 by_cases h8:a<8
 ·rw [List.set_append_left _ _ (by exact TN hS h8),if_pos (by exact abH h8),qf (n:=X.length) (Y:= []) (Z:= []) (by rw [List.length_set];exact hS) hL hN (by exact TM hX),List.take_left' rfl,if_neg];intro e;rw [D7 _ _ _ _ (by exact TN hS h8)] at hv;have:=congrArg (fun l=>l.getD a 0) e;simp only [List.getD_eq_getElem?_getD,List.getElem?_set_self (show a<(mn (bO 4 X.length++X)).length by exact TN hS h8),Option.getD_some] at this;exact hv (by rw [<- this,pS])
 rw [List.set_append_right _ _ (by exact RW hS h8),hS];have Ld:v≠(bO 4 X.length++(X++List.replicate (160-(12+X.length)) 0)).getD (a-8) 0:=by
  rw [JV _ _ _ _ (by exact RW hS h8),hS] at hv;exact hv
 by_cases By:a<12
 ·rw [List.set_append_left _ _ (by exact RX hL By),if_pos (by exact abI By)];rw [D7 _ _ _ _ (by exact RX hL By)] at Ld;have QJ:=QI (n:=X.length) (by exact RY hX);rw [QJ] at Ld;have hx:X.length.toUInt8.toNat=X.length:=toU8_nat (by exact RY hX);have QE:=v.toNat_lt
  by_cases h0:a=8
  ·subst h0;have QK:v.toNat≠X.length:=by
    have:=IQ Ld;rw [show([X.length.toUInt8,0,0,0].getD (8-8) 0)=X.length.toUInt8 from rfl,hx] at this;exact this
   have hL':(bO 4 X.length).set (8-8) v= [v,0,0,0]:=by rw [QJ];rfl
   rw [hL'];have v9:numOf [v,0,0,0]=(v.toNat:Int):=by rw [qL];simp
   by_cases hf:148<v.toNat
   ·exact AA hS rfl (by rw [v9];exact abJ hf)
   ·rw [qf (n:=v.toNat) (Y:= []) (Z:= []) hS rfl v9 (by exact abK hf),if_neg];refine Gx ?_ ?_ ?_
    ·rw [ip,ie,ip,List.length_replicate,oI,oI,oI,oI,List.length_nil];exact abL hX QE hf
    ·rw [ip,hL];exact Pn hX
    rw [lL,lL,QJ];have q1:s1 [v,0,0,0]=v.toNat:=by simp [s1]
    have q2:s1 [X.length.toUInt8,0,0,0]=X.length:=by
     have:s1 [X.length.toUInt8,0,0,0]=X.length.toUInt8.toNat:=by simp [s1]
     rw [this,hx]
    rw [q1,q2]
    by_cases j_:v.toNat<X.length
    ·rw [List.take_append_of_le_length (by exact TF j_)];have:=lL (X.take v.toNat) (X.drop v.toNat);rw [List.take_append_drop] at this;have:=IP (X.drop v.toNat);exact abM j_ (by assumption) this
    ·rw [List.take_append,qP (by exact TO j_),lL,List.take_replicate,Oa];exact abN QK
  ·refine AA hS (by rw [List.length_set];exact hL) ?_;rw [QJ];have hc:a=9\/a=10\/a=11:=by exact abO ha h8 By h0
   have hv0:v≠0:=by rcases hc with rfl|rfl|rfl <;> exact Ld
   have Vs:v.toNat≠0:=IQ hv0;rcases hc with rfl|rfl|rfl
   ·show 148<numOf [_,v,0,0];rw [qL];simp only [UInt8.toNat_zero];exact abP Vs h0
   ·show 148<numOf [_,0,v,0];rw [qL];simp only [UInt8.toNat_zero];exact abQ Vs h0
   ·show 148<numOf [_,0,0,v];rw [qL];simp only [UInt8.toNat_zero];exact abR Vs h0
 rw [List.set_append_right _ _ (by exact RZ hL h8 By),hL];have QK:v≠(X++List.replicate (160-(12+X.length)) 0).getD (a-8-4) 0:=by
  rw [JV _ _ _ _ (by exact RZ hL h8 By),hL] at Ld;exact Ld
 rw [qf (n:=X.length) (Y:= []) (Z:= []) hS hL hN (by exact TM hX)]
 by_cases hx:a<12+X.length
 ·rw [if_pos hx,List.set_append_left _ _ (by exact TP h8 By hx),List.take_left' (by rw [List.length_set]),if_neg];rw [D7 _ _ _ _ (by exact TP h8 By hx)] at QK;refine Gx (by rw [ip,hL,List.length_set];exact Pn hX) (by rw [ip,hL];exact Pn hX) ?_;rw [lL,lL];have:=JW X (a-8-4) v (by exact TP h8 By hx);have:=IQ QK;exact abS (by assumption) this
 ·rw [if_neg hx,List.set_append_right _ _ (by exact abT h8 By hx),List.take_left' rfl,if_pos rfl]
end
end
section
noncomputable def fw(b:List UInt8)(p st:Nat):List UInt8:=b.set p (((b.getD p 0).toNat+st) % 256).toUInt8
noncomputable def front(b:List UInt8):List UInt8:=b.take 160
noncomputable def back(b:List UInt8):List UInt8:=(b.drop 208).take 160
theorem Lf(b:List UInt8):tell b true= .none:=rfl
theorem sJ(b:List UInt8):tell b false=match ia (front b) with
 | .none=>ia (back b)
 |v=>v:=rfl
section
variable {b P:List UInt8}{p st a:Nat}
theorem km:(fw b p st).length=b.length:=List.length_set
theorem Ob(h:1<=st/\st<=255):(((b.getD p 0).toNat+st) % 256).toUInt8≠b.getD p 0:=fun e=>by
 have e2:=congrArg UInt8.toNat e;rw [toU8_nat (Nat.mod_lt _ (bR rfl))] at e2;have:=(b.getD p 0).toNat_lt;exact ab3 h e2
theorem vQ{X:List UInt8}(hX:X.length<=148)(ha:a<160)(h:1<=st/\st<=255):ia (fw (eV X) a st)=if a<12+X.length then .none else .bytes X:=Gy hX ha (Ob h)
theorem Gz(h:a<160):front (fw b a st)=fw (front b) a st:=by
 delta front fw;rw [List.take_set]
 congr 4
 simp only [List.getD_eq_getElem?_getD,List.getElem?_take];rw [if_pos h]
theorem GA(h:160<=p):front (fw b p st)=front b:=by
 delta front fw;rw [List.take_set,List.set_eq_of_length_le (by rw [ie];exact ab4 h)]
theorem JX(h:p<208):back (fw b p st)=back b:=by
 delta back fw;rw [List.drop_set,if_pos h]
theorem QL(h:a<160):back (fw b (208+a) st)=fw (back b) a st:=by
 delta back fw;rw [List.drop_set,if_neg (by exact ab5),Nat.add_sub_cancel_left,List.take_set]
 congr 4
 simp only [List.getD_eq_getElem?_getD,List.getElem?_take,List.getElem?_drop];rw [if_pos h]
noncomputable def mN:List UInt8:=List.replicate 384 0
theorem vR:mN.length=384:=rfl
theorem Oc(hP:P.length=160):(iX P mN).length=384:=by
 unfold iX;simp only [List.length_append,List.length_take,List.length_drop,vR];exact ab6 hP
theorem qN(hP:P.length=160):front (iX P mN)=P:=by
 delta front iX;rw [List.append_assoc,List.take_append_of_le_length (by rw [ie,ip,oH,vR];exact ab7 hP),List.take_take,List.take_append_of_le_length (by exact ab8 hP),qP (by exact ab9 hP)]
theorem Cg(hP:P.length=160):back (iX P mN)=P:=by
 delta back iX;have h1:((P++mN.drop 160).take 208).length=208:=by rw [ie,ip,oH,vR];exact ab_ hP
 rw [List.append_assoc,List.drop_left' h1];exact List.take_left' hP
theorem Lg:tell mN false= .none:=by
 have h:ia (List.replicate 160 0)= .none:=by
  have e:List.replicate 160 (0:UInt8)=List.replicate 8 0++([0,0,0,0]++List.replicate 148 0):=by
   rw [show [(0:UInt8),0,0,0]=List.replicate 4 0 from rfl,List.replicate_append_replicate,List.replicate_append_replicate]
  rw [e,qf (n:=0) (Y:= []) (Z:= []) rfl rfl (by rw [qL];rfl) (by decide),if_neg];intro q;have q2:=congrArg (List.take 4) q;unfold mn at q2;rw [List.take_left' (aw _ _),List.take_zero,List.append_nil] at q2;have q3:=congrArg numOf q2;have r1:=eN (1+s1 [0,0,0,0]) (k:=4294967296) (bR rfl);rw [fy r1.1 (by exact LW r1),show(List.replicate 8 (0:UInt8)).take 4= [0,0,0,0] from rfl,qL,show s1 [0,0,0,0]=0 from rfl] at q3;exact absurd q3 (by decide)
 have f:front mN=List.replicate 160 0:=by unfold front mN;rw [List.take_replicate];rfl
 have g:back mN=List.replicate 160 0:=by unfold back mN;rw [List.drop_replicate,List.take_replicate];rfl
 rw [sJ,f,g,h]
variable {X:List UInt8}
theorem Ci(hX:X.length<=148):tell (iX (eV X) mN) false= .bytes X:=by
 rw [sJ,qN (iy hX),sI hX]
theorem QM(hX:X.length<=148)(ha:a<160)(h:1<=st/\st<=255):tell (fw (iX (eV X) mN) a st) false= .bytes X:=by
 rw [sJ,Gz ha,qN (iy hX),JX (by exact R3 ha),Cg (iy hX),vQ hX ha h,sI hX]
 by_cases q:a<12+X.length
 ·rw [if_pos q]
 ·rw [if_neg q]
theorem QN(hX:X.length<=148)(ha:a<160)(h:1<=st/\st<=255):tell (fw (iX (eV X) mN) (208+a) st) false= .bytes X:=by
 rw [sJ,GA (by exact R4),qN (iy hX),sI hX]
theorem Od(hX:X.length<=148)(ha:a<160)(h:1<=st/\st<=255):tell (fw (fw (iX (eV X) mN) a st) (208+a) st) false=if a<12+X.length then .none else .bytes X:=by
 rw [sJ,GA (by exact R4),Gz ha,QL ha,JX (by exact R3 ha),qN (iy hX),Cg (iy hX),vQ hX ha h]
 by_cases q:a<12+X.length
 ·rw [if_pos q]
 ·rw [if_neg q]
end
end
section
variable {k:Int}
section
variable {Q:MV->MH->Prop}{QB:Bool->MH->Prop}{m m0 m':MH}{i jo jw sh:Nat}{b:List UInt8}{ws:List MV}{out:Bool}{r w:Int}
theorem nr{bg at' st:Nat}(S:dB out w r i jo jw b ws m)(hb:b.length=384)(h:bg*16+at'<384)(hs:st<=255):
  Ok (ni.1 [.obj i,.int bg,.int at',.int st] m) fun ψ m'=>m'=m.set jo (.ba (fw b (bg*16+at') st)):=by
 refine az fun zG=> ?_;obtain⟨a,q,o,u,l⟩:=id S;refine zG ?_;have e0:((bg:Int)*16+(at':Int)).toNat=bg*16+at':=by exact Rl
 have ep:((bg:Int)*16+(at':Int))=((bg*16+at':Nat):Int):=by exact Yb
 have e1:((bg:Int)*16+(at':Int)).fdiv 16=(((bg*16+at')/16:Nat):Int):=by
  rw [ep,Int.fdiv_eq_ediv_of_nonneg _ (by decide)];exact Yc
 have e2:((bg:Int)*16+(at':Int)).fmod 16=(((bg*16+at') % 16:Nat):Int):=by
  rw [ep,Int.fmod_eq_emod_of_nonneg _ (by decide)];exact Yd
 dsimp only [ni];refine Ok.cps fun Q hq=> ?_;refine Ok.dc (eM rfl) (by keq_hits) ?_;lcg_off;refine Ok.aeh o (by exact Ye hb h e0 e2) ?_;rw [e0];lcg_off;have e3:((((b.getD (bg*16+at') 0).toNat:Int)+(st:Int)).fmod 256)=((((b.getD (bg*16+at') 0).toNat+st) % 256:Nat):Int):=by
  rw [Int.fmod_eq_emod_of_nonneg _ (bR rfl)];exact Yg
 rw [e1,e2,e3];refine(Bw S hb (by exact Yh h e0 e2) (by exact Yi e0 e2) (by exact Yj e3)).mono ?_;rintro v m1 rfl;lcg_off;rw [show(bg*16+at')/16*16+(bg*16+at') % 16=bg*16+at' by exact Yk];rfl
theorem Ok.int{xs:List MV}{ns:List Int}(b:Bool)(e:intsOf xs=some ns)(f:ns.any (· ==k)=b)(q:QB b m):Ok (FA (.int k) (.tup xs) m) QB:= .of (aV ((aV e).trans (congrArg some f))) q
theorem Ok.QO{l:Nat}{x:MV}(o:m.ob l= .list [.tup [.int k,x]])(q:Q (.obj m.n) (m.new (.dict [(k,x)]))):Ok (FR (.obj l) m) Q:= .of ((cC o).trans rfl) q
def yG(m:MH)(d:Nat)(b:List UInt8)(out:Bool):Prop:=∃jo jw r w,dB out w r d jo jw b [] m
noncomputable def lZ:Option (Int×Nat)->MV
 |none=> .none
 |some (g,k)=> .tup [.int g,.int (k:Int)]
noncomputable def AB(Cs:Nat->d_):Option (Int×Nat)->MV
 |none=> .none
 |some (g,k)=> .bytes (bO 4 g++gm (Cs k))
def D8(tl:Option (Int×Nat)):Prop:=∀g k,tl=some (g,k)->(10<=g/\g<=15)/\k<3
def mO(Cs:Nat->d_)(m:MH)(d:Nat)(tl:Option (Int×Nat)):Prop:=(∃b out,yG m d b out/\b.length=384/\tell b out=AB Cs tl)/\D8 tl
set_option maxHeartbeats 1000000 in
theorem D9{cs:Nat}{cl:List MV}{Cs:Nat->d_}(hs:c9 m sh)(ho:m.ob cs= .list cl)(fY:cl.length=3)(Ft:cs<m.n)(hC:∀k v,cl[k]? =some v->eY m v (Cs k))(hR:∀k,k<3->ConfOK (Cs k)/\4+(gm (Cs k)).length<=148)(x:Int):
  Ok (qD.1 [.obj sh,.obj cs,.int x] m) fun v m'=>∃d tl,v= .tup [.obj d,lZ tl]/\m.n<=d/\Ext m m'/\mO Cs m' d tl:=by
 have f1:=eN x (k:=4) (bR rfl);have f2:=eN (x.fdiv 4) (k:=6) (bR rfl);dsimp only [qD];refine Ok.cps fun Q hq=> ?_;refine Ok.dc (eM rfl) (by keq_hits) ?_;lcg_off;refine(II hs).q2 ?_;intro m1 S1 x1;have hL1:=S1.l;lcg_off
 by_cases h3:x.fmod 4=3
 ·lcg_off;refine⟨m.n,none,rfl,dT _,x1,⟨mN,false,⟨_,_,_,_,S1⟩,vR,Lg⟩,fun g k h=>by cases h⟩
 lcg_off;obtain⟨kk,Qs⟩:∃kk:Nat,x.fmod 4=kk:=⟨(x.fmod 4).toNat,by exact Yl f1⟩;have DN:kk<3:=by exact Ym f1 h3 Qs
 obtain⟨cv,Oe⟩:∃cv,cl[kk]? =some cv:=⟨_,iP (by exact Yn fY DN)⟩;have C0:=hC _ _ Oe;obtain⟨Ta,IS⟩:=hR _ DN;rw [Qs];refine Ok.qa ((x1.ob _ Ft).trans ho) (by exact Cu DN) (by rw [l7];exact Oe) ?_;lcg_off;refine Ok.QO (bc _ _) ?_;generalize rn:m1.new (.list _)=m2;have x2:Ext m1 m2:=by rw [<- rn];exact .new _ _
 have x3:=Ext.new m2 (.dict [(10+(x.fdiv 4).fmod 6,.obj m.n)]);have o3:=bc m2 (.dict [(10+(x.fdiv 4).fmod 6,.obj m.n)]);have l3:m2.n<(m2.new (.dict [(10+(x.fdiv 4).fmod 6,.obj m.n)])).n:=gA _;generalize m2.new (.dict [(10+(x.fdiv 4).fmod 6,.obj m.n)])=m3 at x3 o3 l3;have S3:=(S1.keep x2).keep x3;have hg:Aq (10+(x.fdiv 4).fmod 6):=by unfold Aq;exact Yo f2
 have GB:D8 (some (10+(x.fdiv 4).fmod 6,kk)):=fun g k h=>by
  injection h with h;injection h with h1 h2;subst h1;subst h2;exact Yp f2 DN
 lcg_off;refine(wV ((x1.trans x2).trans x3) ⟨dT _,by exact EA,by exact Yq⟩ hs C0 Ta hg IS S3 rfl o3 l3).k2 ?_;intro v4 m4 fM x4;refine az fun zG=> ?_;obtain⟨oh,w4,D6,S4⟩:=fM;refine zG ?_;lcg_off;refine(oZ (C0.keep (.of x4)) Ta).q1 ?_;intro m5 x5;lcg_off;refine Ok.xy (by exact Yr IS) ?_;lcg_off;have f5:=eN (x.fdiv 24) (k:=5) (bR rfl);have f6:=eN ((x.fdiv 24).fdiv 5) (k:=160) (bR rfl);have f7:=eN ((x.fdiv 24).fdiv 800) (k:=255) (bR rfl);obtain⟨at',yf⟩:∃at':Nat,((x.fdiv 24).fdiv 5).fmod 160=at':=⟨(((x.fdiv 24).fdiv 5).fmod 160).toNat,by exact Ys f6⟩;obtain⟨vS,rk⟩:∃vS:Nat,1+((x.fdiv 24).fdiv 800).fmod 255=vS:=⟨(1+((x.fdiv 24).fdiv 800).fmod 255).toNat,by exact Yt f7⟩;have Of:at'<160:=by exact Yu f6 yf
 have pY:1<=vS/\vS<=255:=by exact Yv f7 rk
 rw [yf,rk];generalize hX:bO 4 (10+(x.fdiv 4).fmod 6)++gm (Cs kk)=X at S4;have Lc:X.length=4+(gm (Cs kk)).length:=by rw [<- hX,ip,aw]
 have wW:X.length<=148:=by exact Yw IS Lc
 have hP:=iy wW;have S5:=S4.keep x5;have AD:(iX (eV X) mN).length=384:=Oc hP;change dB false w4 0 m.n (m.n+2) oh (iX (eV X) mN) [] m5 at S5;have E5:=x4.trans x5;have hB:AB Cs (some (10+(x.fdiv 4).fmod 6,kk))= .bytes X:=by rw [<- hX];rfl
 have h5:(x.fdiv 24).fmod 5=0\/(x.fdiv 24).fmod 5=1\/(x.fdiv 24).fmod 5=2\/(x.fdiv 24).fmod 5=3\/(x.fdiv 24).fmod 5=4:=by exact Yx f5
 rcases h5 with vT|vT|vT|vT|vT
 ·lcg_off;refine Ok.int false rfl (by rw [vT];decide) ?_;lcg_off;refine Ok.int false rfl (by rw [vT];decide) ?_;refine az fun zG=> ?_;obtain⟨a6,q6,_,_,l6⟩:=id S5;refine zG ?_;lcg_off;refine Ok.gp a6 q6 (by decide) (by exact J_ l6) (i9 rfl) rfl fun m9 a9 r9 n9 o9=> ?_;lcg_off;have S9:=S5.xD n9 o9 r9;have E9:=(eu.refl (i:=m.n) (jo:=m.n+2) (jw:=oh) m5).trans (eu.Gs (jo:=m.n+2) (jw:=oh) n9 o9);refine⟨m.n,some (10+(x.fdiv 4).fmod 6,kk),rfl,dT _,E5.only ⟨dT _,by exact EA,D6⟩ E9,⟨_,_,⟨_,_,_,_,S9⟩,AD, ?_⟩,GB⟩;rw [hB];exact Ci wW
 ·lcg_off;refine Ok.int true rfl (by rw [vT];decide) ?_;lcg_off;refine(nr (bg:=0) S5 AD (by exact Rm f6 yf) pY.2).mono ?_;rintro _ m6 rfl;have S6:=S5.sG (fw (iX (eV X) mN) (0*16+at') vS);rw [show 0*16+at'=at' by exact Rn] at S6 ⊢;lcg_off;refine Ok.int false rfl (by rw [vT];decide) ?_;refine az fun zG=> ?_;obtain⟨a6,q6,_,_,l6⟩:=id S6;refine zG ?_;lcg_off;refine Ok.gp a6 q6 (by decide) (by exact J_ l6) (i9 rfl) rfl fun m9 a9 r9 n9 o9=> ?_;lcg_off;have S9:=S6.xD n9 o9 r9;have E9:=(eu.sG (i:=m.n) (jo:=m.n+2) (jw:=oh) m5 (.ba (fw (iX (eV X) mN) at' vS))).trans (eu.Gs (jo:=m.n+2) (jw:=oh) n9 o9);refine⟨m.n,some (10+(x.fdiv 4).fmod 6,kk),rfl,dT _,E5.only ⟨dT _,by exact EA,D6⟩ E9,⟨_,_,⟨_,_,_,_,S9⟩,km.trans AD, ?_⟩,GB⟩;rw [hB];exact QM wW Of pY
 ·lcg_off;refine Ok.int false rfl (by rw [vT];decide) ?_;lcg_off;refine Ok.int true rfl (by rw [vT];decide) ?_;lcg_off;refine(nr (bg:=13) S5 AD (by exact Ro f6 yf) pY.2).mono ?_;rintro _ m6 rfl;have S6:=S5.sG (fw (iX (eV X) mN) (13*16+at') vS);rw [show 13*16+at'=208+at' by exact Rp] at S6 ⊢;lcg_off;refine az fun zG=> ?_;obtain⟨a6,q6,_,_,l6⟩:=id S6;refine zG ?_;lcg_off;refine Ok.gp a6 q6 (by decide) (by exact J_ l6) (i9 rfl) rfl fun m9 a9 r9 n9 o9=> ?_;lcg_off;have S9:=S6.xD n9 o9 r9;have E9:=(eu.sG (i:=m.n) (jo:=m.n+2) (jw:=oh) m5 (.ba (fw (iX (eV X) mN) (208+at') vS))).trans (eu.Gs (jo:=m.n+2) (jw:=oh) n9 o9);refine⟨m.n,some (10+(x.fdiv 4).fmod 6,kk),rfl,dT _,E5.only ⟨dT _,by exact EA,D6⟩ E9,⟨_,_,⟨_,_,_,_,S9⟩,km.trans AD, ?_⟩,GB⟩;rw [hB];exact QN wW Of pY
 ·lcg_off;refine Ok.int true rfl (by rw [vT];decide) ?_;lcg_off;refine(nr (bg:=0) S5 AD (by exact Rm f6 yf) pY.2).mono ?_;rintro _ m6 rfl;have S6:=S5.sG (fw (iX (eV X) mN) (0*16+at') vS);have E6:=eu.sG (i:=m.n) (jo:=m.n+2) (jw:=oh) m5 (.ba (fw (iX (eV X) mN) (0*16+at') vS));rw [show 0*16+at'=at' by exact Rn] at S6 E6 ⊢;generalize m5.set (m.n+2) _=m6 at S6 E6;lcg_off;refine Ok.int true rfl (by rw [vT];decide) ?_;lcg_off;refine(nr (bg:=13) S6 (km.trans AD) (by exact Ro f6 yf) pY.2).mono ?_;rintro _ m7 rfl;have S7:=S6.sG (fw (fw (iX (eV X) mN) at' vS) (13*16+at') vS);have E7:=E6.trans (eu.sG (i:=m.n) (jo:=m.n+2) (jw:=oh) m6 (.ba (fw (fw (iX (eV X) mN) at' vS) (13*16+at') vS)));rw [show 13*16+at'=208+at' by exact Rp] at S7 E7 ⊢;generalize m6.set (m.n+2) _=m7 at S7 E7;have ht:=Od wW Of pY;refine az fun zG=> ?_;obtain⟨a6,q6,_,_,l6⟩:=id S7;refine zG ?_;lcg_off;refine Ok.gp a6 q6 (by decide) (by exact J_ l6) (i9 rfl) rfl fun m9 a9 r9 n9 o9=> ?_;have S9:=S7.xD n9 o9 r9;have E9:=E7.trans (eu.Gs (jo:=m.n+2) (jw:=oh) n9 o9)
  by_cases Tc:(at':Int)<16+((gm (Cs kk)).length:Int)
  ·lcg_off;refine⟨m.n,none,rfl,dT _,E5.only ⟨dT _,by exact EA,D6⟩ E9,⟨_,_,⟨_,_,_,_,S9⟩,km.trans (km.trans AD), ?_⟩,fun g k h=>by cases h⟩;exact ht.trans (if_pos (by exact Yy Lc Tc))
  ·lcg_off;refine⟨m.n,some (10+(x.fdiv 4).fmod 6,kk),rfl,dT _,E5.only ⟨dT _,by exact EA,D6⟩ E9,⟨_,_,⟨_,_,_,_,S9⟩,km.trans (km.trans AD), ?_⟩,GB⟩;rw [hB];exact ht.trans (if_neg (by exact Yz Lc Tc))
 ·lcg_off;refine Ok.int false rfl (by rw [vT];decide) ?_;lcg_off;refine Ok.int false rfl (by rw [vT];decide) ?_;refine az fun zG=> ?_;obtain⟨a6,q6,_,_,l6⟩:=id S5;refine zG ?_
  by_cases ajp:((x.fdiv 24).fdiv 5).fmod 2=0
  ·lcg_off;refine Ok.gp a6 q6 (by decide) (by exact J_ l6) (i9 rfl) rfl fun m9 a9 r9 n9 o9=> ?_;have S9:=S5.xD n9 o9 r9;have E9:=(eu.Gs (i:=m.n) (jo:=m.n+2) (jw:=oh) n9 o9);lcg_off;refine⟨m.n,none,rfl,dT _,E5.only ⟨dT _,by exact EA,D6⟩ E9,⟨_,_,⟨_,_,_,_,S9⟩,AD,Lf _⟩,fun g k h=>by cases h⟩
  ·lcg_off;refine Ok.gp a6 q6 (by decide) (by exact J_ l6) (i9 rfl) rfl fun m9 a9 r9 n9 o9=> ?_;have S9:=S5.xD n9 o9 r9;have E9:=(eu.Gs (i:=m.n) (jo:=m.n+2) (jw:=oh) n9 o9);lcg_off;refine⟨m.n,some (10+(x.fdiv 4).fmod 6,kk),rfl,dT _,E5.only ⟨dT _,by exact EA,D6⟩ E9,⟨_,_,⟨_,_,_,_,S9⟩,AD, ?_⟩,GB⟩;rw [hB];exact Ci wW
end
end
section
variable {d:Nat}{Cs:Nat->d_}{tl:Option (Int×Nat)}
structure Ev (m m':MH):Prop where
 n:m.n<=m'.n
 ob:∀t,t<m.n->(∀fs,m.ob t≠ .dO fs)->m'.ob t=m.ob t
 rc:∀i C,i+1<m.n->m.ob i= .inst C->C≠526->m'.ob (i+1)=m.ob (i+1)
 dk:∀ {d jo jw b out},(∃r w,dB out w r d jo jw b [] m)->∃r w,dB out w r d jo jw b [] m'
section
variable {m m':MH}{i jo jw sh:Nat}{b:List UInt8}{ws:List MV}{out:Bool}{r w:Int}
theorem Ev.refl(m:MH):Ev m m:=⟨dT _,fun ψ ψ ψ=>rfl,fun ψ ψ ψ ψ ψ=>rfl,id⟩
theorem Ev.of(x:Ext m m'):Ev m m':=⟨x.n,fun t h ψ=>x.ob t h,fun i C h ψ ψ=>x.ob _ h,fun⟨r,w,S⟩=>⟨r,w,S.keep x⟩⟩
theorem Ev.trans{a b c:MH}(x:Ev a b)(y:Ev b c):Ev a c where
 n:=jb x.n y.n
 ob:=fun t h q=>(y.ob t (eD h x.n) fun fs=>by rw [x.ob t h q];exact q fs).trans (x.ob t h q)
 rc:=fun i C h a q=>(y.rc i C (eD h x.n) ((x.ob i (by exact O3 h) fun fs e=>by rw [a] at e;cases e).trans a) q).trans (x.rc i C h a q)
 dk:=fun h=>y.dk (x.dk h)
theorem dB.fn{Vt Vu:Nat}{b2:List UInt8}{ws2:List MV}{Og:Bool}{r2 w2:Int}(S:dB out w r i jo jw b ws m)(T:dB Og w2 r2 i Vt Vu b2 ws2 m):b2=b/\Og=out/\Vt=jo/\Vu=jw:=by
 have h:=S.r.symm.trans T.r;simp only [MO.dO.injEq,List.cons.injEq,Prod.mk.injEq,MV.obj.injEq,MV.bool.injEq,MV.int.injEq,true_and,and_true] at h;refine az fun zG=> ?_;obtain⟨h1,h2,h3,h4,h5⟩:=h;refine zG ?_;have o:=S.o.symm.trans (h1▸T.o)
 injection o with o
 exact⟨o.symm,h3.symm,h1.symm,h2.symm⟩
theorem Ev.read{w':Int}(S:dB out w r i jo jw b [] m)(T:∃r',dB out w' r' i jo jw b [] m')(x:fj (i+1) m m'):Ev m m' where
 n:=x.n
 ob:=fun t h q=>x.ob t h fun e=>q _ (e▸S.r)
 rc:=fun j C h a q=>x.ob _ h fun e=>by
  obtain rfl:j=i:=by exact Tn e
  rw [S.a] at a;injection a with a;exact q a.symm
 dk:=fun {d Vt Vu b2 Og} ⟨r2,w2,T2⟩=>by
  by_cases hd:d=i
  ·subst hd;refine az fun zG=> ?_;obtain⟨rfl,rfl,rfl,rfl⟩:=S.fn T2;refine zG ?_;obtain⟨r',T⟩:=T;exact⟨_,_,T⟩
  ·have l:=T2.l;refine⟨r2,w2,(x.ob _ (by exact Pe l) fun e=> ?_).trans T2.a,(x.ob _ l.1 (by exact WE hd)).trans T2.r,(x.ob _ l.2.1 fun e=> ?_).trans T2.o,(x.ob _ l.2.2 fun e=> ?_).trans T2.w,eD l.1 x.n,eD l.2.1 x.n,eD l.2.2 x.n⟩
   ·have:=T2.a;rw [e,S.r] at this;cases this
   ·have:=T2.o;rw [e,S.r] at this;cases this
   ·have:=T2.w;rw [e,S.r] at this;cases this
theorem Ev.nk(x:Ev m m'):NK m m':=by
 refine⟨x.n,fun h=> ?_,fun h=> ?_⟩
 all_goals
  refine az fun zG=> ?_;obtain⟨a,r,c,l1,l2⟩:=h;refine zG ?_;refine⟨(x.ob _ (by exact O3 l1) fun fs e=> ?_).trans a,(x.rc _ _ l1 a (bR rfl)).trans r,(x.ob _ l2 fun fs e=> ?_).trans c,eD l1 x.n,eD l2 x.n⟩
  ·rw [a] at e;cases e
  ·rw [c] at e;cases e
theorem c9.yH(h:c9 m sh)(x:Ev m m'):c9 m' sh:=by
 refine az fun zG=> ?_;obtain⟨a,r,l⟩:=h;refine zG ?_;exact⟨(x.ob _ (by exact O3 l) fun fs e=>by rw [a] at e;cases e).trans a,(x.rc _ _ l a (bR rfl)).trans r,eD l x.n⟩
theorem Ev.list{xs:List MV}{o:Nat}(x:Ev m m')(h:m.ob o= .list xs)(hl:o<m.n):m'.ob o= .list xs:=(x.ob o hl fun fs e=>by rw [h] at e;cases e).trans h
theorem yG.ev(h:yG m d b out)(x:Ev m m'):yG m' d b out:=h.imp fun ψ=>Exists.imp fun ψ=>x.dk
theorem mO.keep(h:mO Cs m d tl)(x:Ev m m'):mO Cs m' d tl:=by
 refine az fun zG=> ?_;obtain⟨⟨b,out,a,q,e⟩,k⟩:=h;refine zG ?_;exact⟨⟨b,out,a.ev x,q,e⟩,k⟩
noncomputable def D_(Cs:Nat->d_):Option (Int×Nat)->MV
 |none=> .none
 |some (g,k)=> .tup [.int g,DW (Cs k)]
theorem ConfOK.sz{C:d_}(h:ConfOK C):C.e_.length<=100/\∀T∈C.e_,T.ks.length<=100:=⟨by have:=h.l;exact Hb this,fun T hT=>by have:=(h.t T hT).l;exact Hb this⟩
theorem sL(hs:c9 m sh)(h:mO Cs m d tl):Ok (gx.1 [.obj d,.obj sh] m) fun v m'=>v=AB Cs tl/\Ev m m':=by
 refine az fun zG=> ?_;obtain⟨⟨b,out,⟨jo,jw,r,w,S⟩,hb,e⟩,k⟩:=h;refine zG ?_;refine(yr S hb hs).q2 ?_;intro m1 T x;exact⟨e,.read S T x⟩
theorem Ea(hs:c9 m sh)(h:mO Cs m d tl)(hR:∀k,k<3->uD (Cs k)):Ok (qE.1 [.obj d,.obj sh] m) fun v m'=>v=D_ Cs tl/\Ev m m':=by
 dsimp only [qE];refine Ok.cps fun Q hq=> ?_;refine Ok.dc (eM rfl) (by keq_hits) ?_;lcg_off;refine(sL hs h).q1 ?_;intro m1 x1;cases tl with
 |none=>
  lcg_off;refine Ok.of (a:=true) rfl ?_;lcg_off;exact⟨rfl,x1⟩
 |some q=>
  obtain⟨g,k⟩:=q;obtain⟨hg,hk⟩:=h.2 g k rfl;have hC:=hR k hk;have fY:=qc hC.toConfOK;lcg_off;refine Ok.of (a:=false) rfl ?_;lcg_off;refine Ok.su rfl rfl (by rw [ip,aw];exact Hc fY) ?_;have e1:c8 (bO 4 g++gm (Cs k)) none (some 4)=bO 4 g:=(uo _ 4).trans (List.take_left' (aw _ _));have e2:c8 (bO 4 g++gm (Cs k)) (some 4) none=gm (Cs k):=(zI _ 4).trans (List.drop_left' (aw _ _));rw [e1];have hn:numOf (bO 4 g)=g:=fy (by exact To hg) (by exact Tp hg);lcg_off;refine Ok.ex (iF (by rw [aw];exact O4) (by rw [hn];exact Tq hg) _) fun m2 x2=> ?_;rw [hn];lcg_off;refine Ok.su rfl rfl (by rw [ip,aw];exact Hc fY) ?_;rw [e2];lcg_off;refine(pN hC).k2 ?_;intro v m3 I3F x3;have I3:=I3F.to;refine az fun zG=> ?_;obtain⟨i,j,xs,rfl,⟨a,r,c,l⟩,F⟩:=id I3;refine zG ?_;lcg_off;refine(jy I3 hC.toConfOK.sz.1 hC.toConfOK.sz.2).q1 ?_;intro m4 x4;lcg_off;exact⟨rfl,x1.trans (.of ((x2.trans x3).trans x4))⟩
end
end
section
variable {Cs:Nat->d_}{m:MH}{r:Nat×Int×Nat}{g k:Int}{L:LD}{x:MV}{es:List (Int×MV)}{d:Nat}
noncomputable abbrev LD:=List (Nat×Option (Int×Nat))
noncomputable def ck(L:LD):List (Nat×Int×Nat):=L.filterMap fun p=>p.2.map fun q=>(p.1,q.1,q.2)
def lM(Cs:Nat->d_)(n:Nat)(m:MH)(v:MV)(r:Nat×Int×Nat):Prop:=∃cv,v= .tup [.int r.2.1,cv,.obj r.1]/\jk n m cv (Cs r.2.2)
theorem lM.keep{n:Nat}{m':MH}{v:MV}(h:lM Cs n m v r)(x:NK m m'):lM Cs n m' v r:=h.imp fun ψ=>And.imp_right fun c=>c.up x (dT _)
section
variable {n o:Nat}{m:MH}{v:MV}{x:MO}
theorem jj.pQ(h:jj n m v g)(ho:o<n):jj n (m.set o x) v g:=by
 refine az fun zG=> ?_;obtain⟨i,j,e,k,a,b⟩:=h;refine zG ?_;exact⟨i,j,e,⟨(cc (by exact Kb ho a)).trans k.a,(cc (by exact TQ ho a)).trans k.r,(cc (by exact Kb ho b)).trans k.c,k.l⟩,a,b⟩
theorem lb.pQ{g:Top}(h:lb n m v g)(ho:o<n):lb n (m.set o x) v g:=by
 refine az fun zG=> ?_;obtain⟨i,j,xs,e,k,f,a,b⟩:=h;refine zG ?_;exact⟨i,j,xs,e,⟨(cc (by exact Kb ho a)).trans k.a,(cc (by exact TQ ho a)).trans k.r,(cc (by exact Kb ho b)).trans k.c,k.l⟩,f.mono fun ψ ψ c=>c.pQ ho,a,b⟩
theorem jk.pQ{g:d_}(h:jk n m v g)(ho:o<n):jk n (m.set o x) v g:=by
 refine az fun zG=> ?_;obtain⟨i,j,xs,e,k,f,a,b⟩:=h;refine zG ?_;exact⟨i,j,xs,e,⟨(cc (by exact Kb ho a)).trans k.a,(cc (by exact TQ ho a)).trans k.r,(cc (by exact Kb ho b)).trans k.c,k.l⟩,f.mono fun ψ ψ c=>c.pQ ho,a,b⟩
theorem lM.pQ(h:lM Cs n m v r)(ho:o<n):lM Cs n (m.set o x) v r:=h.imp fun ψ=>And.imp_right fun c=>c.pQ ho
theorem Ev.oY{m2:MH}{o:Nat}{x:MO}(h:Ev m m2)(ho:m.n<=o):Ev m (m2.set o x) where
 n:=h.n
 ob:=fun t ht q=>(cc (by exact Wn ho ht)).trans (h.ob t ht q)
 rc:=fun i C ht a q=>(cc (by exact acu ho ht)).trans (h.rc i C ht a q)
 dk:=fun {d jo jw b out} ⟨r,w,S⟩=>by
  have l:=S.l;refine az fun zG=> ?_;obtain⟨r',w',T⟩:=h.dk ⟨r,w,S⟩;refine zG ?_;exact⟨r',w',(cc (by exact acv ho l)).trans T.a,(cc (by exact acw ho l)).trans T.r,(cc (by exact acx ho l)).trans T.o,(cc (by exact acy ho l)).trans T.w,T.l⟩
end
theorem gI{k:Nat}{p:Nat×Option (Int×Nat)}(h:L[k]? =some p):ck (L.take (k+1))=ck (L.take k)++(match p.2 with
  |none=> []
  |some (g,j)=> [(p.1,g,j)]):=by
 unfold ck;rw [cW h,List.filterMap_append];obtain⟨d,tl⟩:=p;cases tl with
 |none=>rfl
 |some q=>rfl
theorem oq(L:LD):(ck L).length<=L.length:=List.length_filterMap_le _ _
theorem Cj(h:∀p∈L,D8 p.2):∀r∈ck L,(10<=r.2.1/\r.2.1<=15)/\r.2.2<3:=fun r hr=>by
 unfold ck at hr;rw [List.mem_filterMap] at hr;refine az fun zG=> ?_;obtain⟨⟨d,tl⟩,hp,e⟩:=hr;refine zG ?_;cases tl with
 |none=>cases e
 |some q=>
  cases e;exact h _ hp _ _ rfl
theorem Ok.Td{Q:MV->MH->Prop}{i:Nat}{n:Int}{ns:List Int}(o:m.ob i= .list ((n::ns).map .int))(q:Q (.int (iV (n::ns))) m):Ok (Nd [.obj i] m) Q:= .of ((cC o).trans (congrArg (Ih m) (ml _))) q
theorem Ck:∀(a:Int) (r:List Int),iV (a::r)∈a::r
 |a, []=>rr
 |a,b::r=>by
  have h:=Ck b r;show max a (iV (b::r))∈_;rcases Int.le_total a (iV (b::r)) with q|q
  ·rw [Int.max_eq_right q];exact List.mem_cons_of_mem _ h
  ·rw [Int.max_eq_left q];exact rr
noncomputable def jV(Cs:Nat->d_)(R:List (Nat×Int×Nat)):List Int:=R.map fun r=>(Cs r.2.2).ed
noncomputable def xE(Cs:Nat->d_)(R:List (Nat×Int×Nat)):List (Nat×Int×Nat):=R.filter fun r=>(Cs r.2.2).ed==iV (jV Cs R)
theorem Oh{R:List (Nat×Int×Nat)}(h:R≠ []):∃r0 t,xE Cs R=r0::t/\r0∈R:=by
 have hm:iV (jV Cs R)∈jV Cs R:=by
  cases R with
  |nil=>exact absurd rfl h
  |cons a r=>exact Ck _ _
 unfold jV at hm;rw [List.mem_map] at hm;refine az fun zG=> ?_;obtain⟨r,hr,e⟩:=hm;refine zG ?_;cases hn:xE Cs R with
 |nil=>
  have:r∈xE Cs R:=List.mem_filter.mpr ⟨hr,by rw [beq_iff_eq];exact e⟩;rw [hn] at this;cases this
 |cons r0 t=>
  have:r0∈xE Cs R:=by rw [hn];exact rr
  exact⟨r0,t,rfl,(List.mem_filter.mp this).1⟩
noncomputable def eO(Cs:Nat->d_)(G:Int)(D:List Int)(acc:List (Int×MV))(r:Nat×Int×Nat):List (Int×MV):=if((Cs r.2.2).gR=G/\D.any (· ==r.2.1)=true)/\lz r.2.1 acc=none then acc++ [(r.2.1,.obj r.1)] else acc
theorem AE:∀ {es:List (Int×MV)},lz k es=none->es.any (fun kv=>kv.1=k)=false
 | [],_=>rfl
 |(k',v)::r,h=>by
  rw [uq] at h
  by_cases q:k'=k
  ·rw [if_pos q] at h;exact cj h.symm
  ·rw [if_neg q] at h;rw [List.any_cons,AE h,Bool.or_false];exact decide_eq_false q
theorem Cm(h:lz k es=none):BX k x es=es++ [(k,x)]:=by
 unfold BX;rw [AE h];rfl
theorem sM{G:Int}{D:List Int}(R:List (Nat×Int×Nat)):∀acc,(R.foldl (eO Cs G D) acc).length<=acc.length+R.length:=by
 induction R with
 |nil=>intro acc;exact dT _
 |cons r R ih=>
  intro acc;rw [List.foldl_cons,oI];have:=ih (eO Cs G D acc r);have:(eO Cs G D acc r).length<=acc.length+1:=by unfold eO;split <;> simp
  exact acz (by assumption) this
section
variable {Q:MV->MH->Prop}{QB:Bool->MH->Prop}{m:MH}
theorem Ok.ind(o:m.ob d= .dict es)(q:QB (lz g es).isSome m):Ok (FA (.int g) (.obj d) m) QB:= .of (aV (by show Qg g (m.ob d)=_;rw [o];rfl)) q
theorem Ok.Te{QU:Unit->MH->Prop}(o:m.ob d= .dict es)(h:es.length<=100000/\d<m.n)(q:QU () (m.set d (.dict (BX g x es)))):Ok (M_ (.obj d) (.int g) x m) QU:= .of (by show Dy g x d m (m.ob d)=_;rw [o];exact if_pos h) q
end
variable {m:MH}{sh od:Nat}{Cs:Nat->d_}{L:LD}
set_option maxHeartbeats 1000000 in
theorem yt(hs:c9 m sh)(ho:m.ob od= .list (L.map fun p=> .obj p.1))(GC:od<m.n)(hL:∀p∈L,mO Cs m p.1 p.2)(hl:L.length<=100)(hR:∀k,k<3->uD (Cs k)){r0:Nat×Int×Nat}{rt:List (Nat×Int×Nat)}(h0:xE Cs (ck L)=r0::rt)(ot:r0∈ck L):
  Ok (mJ.1 [.obj od,.obj sh] m) fun v m'=>∃cv ow,v= .tup [cv,.obj ow]/\eY m' cv (Cs r0.2.2)/\m.n<=ow/\ow<m'.n/\m'.ob ow= .dict ((ck L).foldl (eO Cs (Cs r0.2.2).gR (eU (Cs r0.2.2))) [])/\Ev m m':=by
 have QQ:=oq L;have aeJ:=Cj (L:=L) fun p hp=>(hL p hp).2;have iZ:(ck L).length≠0:=fun e=>by rw [List.length_eq_zero_iff] at e;rw [e] at ot;cases ot
 dsimp only [mJ];refine Ok.cps fun Q hq=> ?_;refine Ok.dc (eM rfl) (by keq_hits) ?_;lcg_off;have x0:=Ext.new m (.list []);refine bL.forL od (L.map fun p=> .obj p.1) (fun k fr m1=>(∃z1 z2,fr= [some (.obj od),some (.obj sh),some (.obj m.n),z1,z2,none,none,none,none,none])/\Ev m m1/\m.n<m1.n/\∃ys,m1.ob m.n= .list ys/\F2 (lM Cs (m.n+1) m1) ys (ck (L.take k))) ?_ ?_ ?_ ?_
 ·lcg_off;exact⟨rfl,⟨_,_,rfl⟩,.of x0,gA _,_,bc _ _,.nil⟩
 ·intro k fr m1 mL;refine az fun zG=> ?_;obtain⟨_,x1,_⟩:=mL;refine zG ?_;exact x1.list ho GC
 ·intro k v fr m1 e jI J hj;refine az fun zG=> ?_;obtain⟨⟨z1,z2,rfl⟩,x1,mM,ys,o1,F1⟩:=jI;refine zG ?_;rw [i_,nK] at e;refine az fun zG=> ?_;obtain⟨⟨d,tl⟩,hp,rfl⟩:=e;refine zG ?_;have hD:=(hL _ (jB hp)).keep x1;have hk:k<L.length:=by
   rcases Nat.lt_or_ge k L.length with h|h
   ·exact h
   ·rw [List.getElem?_eq_none h] at hp;cases hp
  have ke:ys.length<=100:=by
   rw [F1.len];have:=oq (L.take k);rw [ie] at this;exact RJ hl hk this
  lcg_off;refine(sL (hs.yH x1) hD).q1 ?_;intro m2 x2;have o2:=x2.list o1 mM;have oG:m.n<m2.n:=eD mM x2.n;have vL:=F1.mono fun ψ ψ a=>a.keep x2.nk;cases tl with
  |none=>
   lcg_off;refine Ok.of (a:=true) rfl ?_;lcg_off;refine⟨⟨_,_,rfl⟩,x1.trans x2,oG,ys,o2, ?_⟩;rw [gI hp,List.append_nil];exact vL
  |some q=>
   obtain⟨g,j⟩:=q;obtain⟨hg,Vw⟩:=hD.2 g j rfl;have hC:=hR j Vw;have fY:=qc hC.toConfOK;have e1:c8 (bO 4 g++gm (Cs j)) none (some 4)=bO 4 g:=(uo _ 4).trans (List.take_left' (aw _ _));have e2:c8 (bO 4 g++gm (Cs j)) (some 4) none=gm (Cs j):=(zI _ 4).trans (List.drop_left' (aw _ _));have hn:numOf (bO 4 g)=g:=fy (by exact To hg) (by exact Tp hg);lcg_off;refine Ok.of (a:=false) rfl ?_;lcg_off;refine Ok.su rfl rfl (by rw [ip,aw];exact Hc fY) ?_;rw [e1];lcg_off;refine Ok.ex (iF (by rw [aw];exact O4) (by rw [hn];exact Tq hg) _) fun m3 x3=> ?_;rw [hn];lcg_off;refine Ok.su rfl rfl (by rw [ip,aw];exact Hc fY) ?_;rw [e2];lcg_off;refine(pN hC).k2 ?_;intro v m4 I4 x4;have Br:=x3.trans x4;have o4:=(Br.ob _ oG).trans o2;have wM:m.n<m4.n:=eD oG Br.n;lcg_off;refine Ok.app o4 ⟨by exact lk ke,wM⟩ ?_;lcg_off;refine⟨⟨_,_,rfl⟩,(x1.trans (x2.trans (.of Br))).oY (dT _),wM,_,fK _ _ _, ?_⟩;rw [gI hp];exact(vL.mono fun ψ ψ a=>(a.keep (.of Br)).pQ (gA _)).snoc ⟨v,rfl,(I4.up (.refl _) (by have:=x3.n;exact RK oG this)).pQ (gA _)⟩
 ·intro fr m1 fM;refine az fun zG=> ?_;obtain⟨⟨z1,z2,rfl⟩,x1,mM,ys,o1,F1⟩:=fM;refine zG ?_;rw [eW,g_] at F1;have ke:=F1.len;lcg_off;have x2:=Ext.new m1 (.list []);have e2:=bc m1 (.list []);generalize m1.new (.list [])=m2 at x2 e2;have o2:=(x2.ob _ mM).trans o1;have vL:=F1.mono fun ψ ψ a=>lM.keep a (.of x2);have oG:m.n<m2.n:=eD mM x2.n;refine Ok.IE o2 e2 (by rw [ke];exact iZ) ?_;lcg_off;refine Ok.kj m.n ys (fun fr=>∃z1 z2 z3,fr= [z1,z2,z3]) (fun k zs m3=>m3=m2/\zs=(jV Cs ((ck L).take k)).map .int) (by exact R7 hl QQ ke) ?_ ⟨_,_,_,rfl⟩ ?_ ?_ ?_
  ·lcg_off;exact⟨rfl,rfl,rfl⟩
  ·rintro k zs _ ⟨rfl,_⟩;exact o2
  ·intro k v zs fr _ e gP lK U hj;refine az fun zG=> ?_;obtain⟨rfl,rfl⟩:=gP;obtain⟨z1,z2,z3,rfl⟩:=lK;refine zG ?_;refine az fun zG=> ?_;obtain⟨r,hr,cv,rfl,CF⟩:=vL.get e;refine zG ?_;refine az fun zG=> ?_;obtain⟨i,j,xs,rfl,⟨a,q,c,l⟩,_⟩:=id CF;refine zG ?_;lcg_off;exact⟨⟨_,_,_,rfl⟩,rfl,by unfold jV;rw [cW hr,ja,ja];rfl⟩
  rintro zs PT ⟨e2',rfl⟩;cases e2';rw [ke,g_];have x3:=Ext.new m2 (.list ((jV Cs (ck L)).map .int));have o3:=bc m2 (.list ((jV Cs (ck L)).map .int));generalize m2.new (.list ((jV Cs (ck L)).map .int))=m3 at x3 o3;obtain⟨e0,er,he⟩:∃e0 er,jV Cs (ck L)=e0::er:=by
   cases h:jV Cs (ck L) with
   |nil=>exact absurd (by have:=congrArg List.length h;unfold jV at this;simpa using this) (fun q:ck L= []=>iZ (by rw [q];rfl))
   |cons a r=>exact⟨a,r,rfl⟩
  rw [he] at o3;have wR:m.n<m3.n:=eD oG x3.n;have o3r:=(x3.ob _ oG).trans o2;have F3:=vL.mono fun ψ ψ a=>lM.keep a (.of x3);lcg_off;refine Ok.Td o3 ?_;rw [<- he];lcg_off;refine Ok.kj m.n ys (fun fr=>∃z1,fr= [z1,some (.int (iV (jV Cs (ck L))))]) (fun k zs m4=>m4=m3/\F2 (fun v r=>jk (m.n+1) m3 v (Cs r.2.2)) zs (((ck L).take k).filter fun r=>(Cs r.2.2).ed==iV (jV Cs (ck L)))) (by exact R7 hl QQ ke) ?_ ⟨_,rfl⟩ ?_ ?_ ?_
  ·lcg_off;exact⟨rfl,rfl,.nil⟩
  ·rintro k zs _ ⟨rfl,_⟩;exact o3r
  ·intro k v zs fr _ e gP lK U hj;refine az fun zG=> ?_;obtain⟨rfl,FZ⟩:=gP;obtain⟨z1,rfl⟩:=lK;refine zG ?_;refine az fun zG=> ?_;obtain⟨r,hr,cv,rfl,CF⟩:=F3.get e;refine zG ?_;refine az fun zG=> ?_;obtain⟨i,j,xs,rfl,⟨a,q,c,l⟩,_⟩:=id CF;refine zG ?_;lcg_off
   by_cases hq:(Cs r.2.2).ed=iV (jV Cs (ck L))
   ·refine Ok.wK hq ?_;lcg_off;refine⟨⟨_,rfl⟩,rfl, ?_⟩;rw [cW hr,List.filter_append,show [r].filter (fun r=>(Cs r.2.2).ed==iV (jV Cs (ck L)))= [r] by rw [List.filter_cons_of_pos (by rw [hq];exact beq_self_eq_true _)];rfl];exact FZ.snoc CF
   ·refine Ok.Ai hq ?_;lcg_off;refine⟨⟨_,rfl⟩,rfl, ?_⟩;rw [cW hr,List.filter_append,show [r].filter (fun r=>(Cs r.2.2).ed==iV (jV Cs (ck L)))= [] by rw [List.filter_cons_of_neg (by rw [beq_iff_eq];exact hq)];rfl,List.append_nil];exact FZ
  rintro zs PU ⟨e3',FZ⟩;cases e3';rw [ke,g_] at FZ;change F2 _ zs (xE Cs (ck L)) at FZ;rw [h0] at FZ;cases FZ with
  | @cons cv _ Vy _ hv FZ'=>
   have x4:=Ext.new m3 (.list (cv::Vy));have o4:=bc m3 (.list (cv::Vy));generalize m3.new (.list (cv::Vy))=m4 at x4 o4;have Vz:=hv.up (.of x4) (dT _);have F4:=F3.mono fun ψ ψ a=>lM.keep a (.of x4);have wM:m.n<m4.n:=eD wR x4.n;have o4r:=(x4.ob _ wR).trans o3r;lcg_off;refine Ok.qa o4 (bR rfl) (v:=cv) rfl ?_;lcg_off;refine Ok.of (a:= .obj m4.n) (m':=m4.new (.dict [])) rfl ?_;have x5:=Ext.new m4 (.dict []);have o5:=bc m4 (.dict []);have n5:m4.n<(m4.new (.dict [])).n:=gA _;generalize m4.new (.dict [])=m5 at x5 o5 n5;have hv5:=Vz.up (.of x5) (dT _);have F5:=F4.mono fun ψ ψ a=>lM.keep a (.of x5);have o5r:=(x5.ob _ wM).trans o4r;have E5:=x1.trans (.of (((x2.trans x3).trans x4).trans x5));have C4:=hR _ (aeJ _ ot).2;have Kk:(eU (Cs r0.2.2)).length<=1000:=by
    have h1:=td (l:=(Cs r0.2.2).e_) (f:=gy) fun T h=>iO (by have:=(C4.t T h).l;exact Hb this);have h2:=C4.l;exact acA h1 h2
   lcg_off;refine bL.forL m.n ys (fun k fr m6=>(∃z1 z2 z3 z4,fr= [some (.obj od),some (.obj sh),some (.obj m.n),z1,z2,some (.int (iV (jV Cs (ck L)))),some cv,some (.obj m4.n),z3,z4])/\Ext m4 m6/\m4.n<m6.n/\m6.ob m4.n= .dict (((ck L).take k).foldl (eO Cs (Cs r0.2.2).gR (eU (Cs r0.2.2))) [])) ?_ ?_ ?_ ?_
   ·lcg_off;exact⟨rfl,⟨_,_,_,_,rfl⟩,x5,n5,o5⟩
   ·intro k fr m6 mL;refine az fun zG=> ?_;obtain⟨_,x6,_⟩:=mL;refine zG ?_;exact(x6.ob _ wM).trans o4r
   ·intro k v fr m6 e jI J hj;refine az fun zG=> ?_;obtain⟨⟨z1,z2,z3,z4,rfl⟩,x6,n6,o6⟩:=jI;refine zG ?_;refine az fun zG=> ?_;obtain⟨r,hr,⟨ov,rfl,CF⟩⟩:=F4.get e;refine zG ?_;have CF6:=CF.up (.of x6) (dT _);have hv6:=(Vz.up (.of x6) (dT _)).to;refine az fun zG=> ?_;obtain⟨i,j,xs,rfl,⟨a,q,c,l⟩,_⟩:=id CF6;refine zG ?_;refine az fun zG=> ?_;obtain⟨i0,j0,Vo,rfl,⟨a0,q0,c0,l0⟩,_⟩:=id hv6;refine zG ?_;have rP:=sM (Cs:=Cs) (G:=(Cs r0.2.2).gR) (D:=eU (Cs r0.2.2)) ((ck L).take k) [];have htk:((ck L).take k).length<=100:=by rw [ie];exact acB hl QQ
    rw [cW hr,List.foldl_append] at hj;generalize FJ:((ck L).take k).foldl (eO Cs (Cs r0.2.2).gR (eU (Cs r0.2.2))) []=acc at o6 rP hj;have step: [r].foldl (eO Cs (Cs r0.2.2).gR (eU (Cs r0.2.2))) acc=eO Cs (Cs r0.2.2).gR (eU (Cs r0.2.2)) acc r:=rfl;rw [step] at hj;lcg_off
    by_cases hg:(Cs r.2.2).gR=(Cs r0.2.2).gR
    ·refine Ok.wK hg ?_;lcg_off;refine(Bp hv6 C4.toConfOK.sz.1 C4.toConfOK.sz.2).nl ?_;intro o7 m7 _ _ ho7 x7;have QR:=(x7.ob _ n6).trans o6;have n7:m4.n<m7.n:=eD n6 x7.n;lcg_off;cases hD:(eU (Cs r0.2.2)).any (· ==r.2.1) with
     |false=>
      refine Ok.ini false ho7 (ml _) hD ?_;lcg_off;refine⟨⟨_,_,_,_,rfl⟩,x6.trans x7,n7, ?_⟩;rw [QR];unfold eO;rw [if_neg (fun h=>by rw [hD] at h;exact absurd h.1.2 (bR rfl))]
     |true=>
      refine Ok.ini true ho7 (ml _) hD ?_;lcg_off;refine Ok.ind QR ?_;cases u7:lz r.2.1 acc with
      |some y=>
       simp only [Option.isSome_some];lcg_off;refine⟨⟨_,_,_,_,rfl⟩,x6.trans x7,n7, ?_⟩;rw [QR];unfold eO;rw [if_neg (fun h=>by rw [u7] at h;exact absurd h.2 (by simp))]
      |none=>
       simp only [Option.isSome_none];lcg_off;refine Ok.Te QR ⟨by simp at rP;exact acC hl QQ rP,n7⟩ ?_;lcg_off;refine⟨⟨_,_,_,_,rfl⟩,(x6.trans x7).oY (dT _),n7, ?_⟩;rw [fK,Cm u7];unfold eO;rw [if_pos ⟨⟨hg,hD⟩,u7⟩]
    ·refine Ok.Ai hg ?_;lcg_off;refine⟨⟨_,_,_,_,rfl⟩,x6,n6, ?_⟩;rw [o6];unfold eO;rw [if_neg (fun h=>hg h.1.1)]
   ·intro fr m6 fM;refine az fun zG=> ?_;obtain⟨⟨z1,z2,z3,z4,rfl⟩,x6,n6,o6⟩:=fM;refine zG ?_;lcg_off;rw [ke,g_] at o6;exact⟨cv,m4.n,rfl,(Vz.up (.of x6) (dT _)).to,by exact TF wM,n6,o6,x1.trans (.of (((x2.trans x3).trans x4).trans x6))⟩
end
section
noncomputable def IU: {fd:FuncData //∃oc od v_,∀w,(KK w).lookup 580=some ⟨oc,od,.func fd,v_⟩}:=⟨_,_,_,_,fun w=>rfl⟩
noncomputable def J0: {b:List Stmt //IU.1.body= .stmts b}:=⟨_,rfl⟩
noncomputable def fc(k:Nat):Stmt:=J0.1.getD k (.Pass default)
noncomputable def mP:Sg:=⟨["script","shape","configs","made_of","rows","disk","told","editions","config","own","newest","due"], ["Shape","_law_configs","_law_cell","len","_law_told","found_disks","sorted","all"],IU.1.scope.names⟩
noncomputable def AF: {c //fX 9 mP (fc 1) c}:=⟨_,(nG (b6 (sA (KP (.head _) Kr Ks B7.2 (by decide)) (sA (sC (mi 1 rfl) xV xW (sA (sV 0) ab) mI.2.fn) ab))) (.cons (i:=1) rfl (fun h=>nomatch h) (.cons (i:=2) rfl (fun h=>nomatch h) .nil)) rfl (fun ψ=>by kernel_rfl!))⟩
noncomputable def AG: {c //fX 9 mP (fc 2) c}:=⟨_,(bh 3 rfl (cO (sA (ak ag (ak (ak (sC (.tail _ (mi 1 rfl)) jn jq (sA (sV 0) (sA ag ab)) gF.2.fn) ag fb) ag dU) bY) (sA (ak ag (ak (ak (sC (.tail _ (mi 1 rfl)) jn jq (sA (sV 0) (sA ag ab)) gF.2.fn) ag fb) ag dU) bY) (sA (ak ag (ak (sC (.tail _ (mi 1 rfl)) jn jq (sA (sV 0) (sA ag ab)) gF.2.fn) ag dU) bY) ab)))) rfl)⟩
noncomputable def GD: {c //fX 9 mP (fc 3) c}:=⟨_,(qt 4 rfl rfl (by decide +kernel) (own:= ["x"]) (cap:= ["shape","configs"]) (gs:= ["_law_disk"]) (idx:= [1,2]) (by decide +kernel) (aY (kO (aD (sC (.tail _ (.tail _ (mi 1 rfl))) ew (aG rfl) (sA (sV 0) ab) ey) ag kY rfl) (eA (sV 0) (b8 ag) (b8 ag)) (cO (sA ag (sA ag ab))))) (bB 0 rfl (fun ψ=>rfl)) c_ (sC (.head _) C8 C9 (sA (sV 1) (sA (sV 2) (sA (sV 0) ab))) qD.2.fn) (fun ψ ψ=>rfl))⟩
noncomputable def AH: {c //fX 9 mP (fc 4) c}:=⟨_,(dK (aY (sV 4)) (fq (.cons (i:=5) rfl (fun h=>nomatch h) (.cons (i:=6) rfl (fun h=>nomatch h) .nil))) (ar (bM (aD (sC (.tail _ (.tail _ (.tail _ (mi 1 rfl)))) C_ Dc (sA (sV 5) (sA (sV 1) ab)) qE.2.fn) (kO (aD (sV 6) d9 Ij rfl) d9 (b6 (sA (bK (sV 6) ag (fun ψ ψ=>rfl)) (sA (aL (bK (sV 2) (bK (sV 6) ag (fun ψ ψ=>rfl)) (fun ψ ψ=>rfl)) ab (fun ψ=>rfl) (.cons js jt f9.2.fn (by decide) .nil) (fun ψ=>⟨_,rfl⟩)) ab)))) jh rfl) (ar (aT je)) bu)) (fun ψ ψ=>rfl))⟩
noncomputable def GF: {c //fX 9 mP (fc 5) c}:=⟨_,(FL 7 rfl rfl (cZ (own:= ["disk","told"]) (cap:= ["configs"]) (gs:= []) (idx:= [2]) (by decide +kernel) (aY (sV 4)) (fq (.cons (i:=0) rfl (fun ψ=>rfl) (.cons (i:=1) rfl (fun ψ=>rfl) .nil))) (wb (aD (sV 1) d9 nE rfl)) (aq (bK (sV 2) (bK (sV 1) ag (fun ψ ψ=>rfl)) (fun ψ ψ=>rfl)) kA (fun ψ=>rfl)) (fun ψ ψ=>rfl)))⟩
noncomputable def AI: {c //fX 9 mP (fc 6) c}:=⟨_,(wH (ar (nG (sC (.tail _ (.tail _ (.tail _ (.tail _ (mi 1 rfl))))) qT qU (sA (cZ (own:= ["disk","told"]) (cap:= []) (gs:= []) (idx:= []) (by decide +kernel) (aY (sV 4)) (fq (.cons (i:=0) rfl (fun ψ=>rfl) (.cons (i:=1) rfl (fun ψ=>rfl) .nil))) c_ (sV 0) (fun ψ ψ=>rfl)) (sA (sV 1) ab)) mJ.2.fn) (.cons (i:=8) rfl (fun h=>nomatch h) (.cons (i:=9) rfl (fun h=>nomatch h) .nil)) rfl (fun ψ=>by kernel_rfl!))))⟩
noncomputable def AJ: {c //fX 9 mP (fc 7) c}:=⟨_,(bM (aD (sV 7) (cO ab) eT rfl) (ar (aT je)) bu)⟩
noncomputable def GG: {c //fX 9 mP (fc 8) c}:=⟨_,(bh 10 rfl (bK (cZ (own:= ["disk","told"]) (cap:= ["editions","configs"]) (gs:= ["max"]) (idx:= [7,2]) (by decide +kernel) (aY (sV 4)) (fq (.cons (i:=0) rfl (fun ψ=>rfl) (.cons (i:=1) rfl (fun ψ=>rfl) .nil))) (wb (bG (bS (aD (sV 1) d9 nE rfl) (bS (aD (aq (bK (sV 3) (bK (sV 1) ag (fun ψ ψ=>rfl)) (fun ψ ψ=>rfl)) kA (fun ψ=>rfl)) (sC (.head _) Df (aG rfl) (sA (sV 2) ab) DE) eT rfl) dz)))) (bK (sV 1) ag (fun ψ ψ=>rfl)) (fun ψ ψ=>rfl)) ag (fun ψ ψ=>rfl)) rfl)⟩
noncomputable def AK: {c //fX 9 mP (fc 9) c}:=⟨_,(bh 11 rfl xq rfl)⟩
noncomputable def wX: {c //fX 9 mP (fc 10) c}:=⟨_,(dK (aY (sV 4)) (fq (.cons (i:=5) rfl (fun h=>nomatch h) (.cons (i:=6) rfl (fun h=>nomatch h) .nil))) (ar (bM (bG (bS (aD (sV 6) d9 nE rfl) (bS (aD (bK (sV 6) ag (fun ψ ψ=>rfl)) (sV 11) s_ rfl) (bS (aD (aq (bK (sV 2) (bK (sV 6) ag (fun ψ ψ=>rfl)) (fun ψ ψ=>rfl)) fF (fun ψ=>rfl)) (aq (bK (sV 2) (sV 10) (fun ψ ψ=>rfl)) fF (fun ψ=>rfl)) eT rfl) dz)))) (ar (bM (gC ag (bK (sV 6) ag (fun ψ ψ=>rfl)) (ak ag (bK (sV 3) (sV 10) (fun ψ ψ=>rfl)) bY) fQ fR rfl) (ar (wB (sV 5) (sV 11) (bK (sV 6) ag (fun ψ ψ=>rfl)) rfl)) bu)) bu)) (fun ψ ψ=>rfl))⟩
noncomputable def wY: {c //fX 9 mP (fc 11) c}:=⟨_,(bM (bG (b4 (aD (aL (sV 8) ab (fun ψ=>rfl) (.cons js jt f9.2.fn (by decide) .nil) (fun ψ=>⟨_,rfl⟩)) (aL (bK (sV 2) (sV 10) (fun ψ ψ=>rfl)) ab (fun ψ=>rfl) (.cons js jt f9.2.fn (by decide) .nil) (fun ψ=>⟨_,rfl⟩)) jh rfl) (b4 (aD (sC (.tail _ (.tail _ (.tail _ (.tail _ (.tail _ (mi 1 rfl)))))) uj (aG rfl) (sA (sV 9) ab) uw) (sC (.tail _ (.tail _ (.tail _ (.tail _ (.tail _ (mi 1 rfl)))))) uj (aG rfl) (sA (sV 11) ab) uw) jh rfl) dX))) (ar (aT je)) bu)⟩
end
section
variable {k n:Nat}{x:MV}{xs:List MV}{QB:Bool->MH->Prop}{m:MH}{C:d_}{w:Int}
def Dat(k:Nat)(x:MV):Prop:=∃d,dataOf x=some d/\d.canLay0=true/\d.depth<=k
def mq(k:Nat)(xs:List MV):Prop:=∃ds,nT xs=some ds/\PyData.canLayAll0 ds=true/\PyData.depthAll ds<=k
theorem Dat.int(k:Nat)(n:Int):Dat k (.int n):=⟨.int n,rfl,rfl,Nat.zero_le _⟩
theorem Dat.none(k:Nat):Dat k .none:=⟨.none,rfl,rfl,Nat.zero_le _⟩
theorem Dat.str(k:Nat){x:Str}(h:PyData.strOk x=true):Dat k (.str x):=⟨.str x,rfl,h,Nat.zero_le _⟩
theorem mq.nil(k:Nat):mq k []:=⟨[],rfl,rfl,Nat.zero_le _⟩
theorem mq.cons(h:Dat k x)(hs:mq k xs):mq k (x::xs):=by
 refine az fun zG=> ?_;obtain⟨d,e,c,l⟩:=h;refine zG ?_;refine az fun zG=> ?_;obtain⟨ds,e2,c2,l2⟩:=hs;refine zG ?_;refine⟨d::ds,(congrArg (Option.bind · fun d=>(nT xs).bind fun ds=>some (d::ds)) e).trans (congrArg (Option.bind · fun ds=>some (d::ds)) e2),Bool.and_eq_true_iff.mpr ⟨c,c2⟩, ?_⟩;exact Nat.max_le.mpr ⟨l,l2⟩
theorem mq.tup(h:mq k xs):Dat (k+1) (.tup xs):=by
 refine az fun zG=> ?_;obtain⟨ds,e,c,l⟩:=h;refine zG ?_;exact⟨.tuple ds,congrArg (Option.bind · fun ds=>some (PyData.tuple ds)) e,c,by exact O65 l⟩
theorem mq.of(h:∀x∈xs,Dat k x):mq k xs:=by
 induction xs with
 |nil=>exact .nil k
 |cons a r ih=>exact .cons (h a rr) (ih fun x hx=>h x (List.mem_cons_of_mem _ hx))
theorem AL(h:Dat k x)(hk:k<=10):zS (dataOf x) (dataOf x)=some true:=by
 refine az fun zG=> ?_;obtain⟨d,e,c,l⟩:=h;refine zG ?_;rw [e];refine(if_pos ?_).trans (congrArg some (SeqAt.eqv_refl d c));rw [c,decide_eq_true (by rw [Nat.min_self];exact Xw hk l)];rfl
theorem Ok.eqt(h:Dat k (.tup xs))(hk:k<=10)(q:QB true m):Ok (vr (.tup xs) (.tup xs) m) QB:= .of (a:=true) (aV (AL h hk)) q
theorem Ok.eqn(q:QB true m):Ok (vr .none .none m) QB:= .of (a:=true) (aV (AL (Dat.none 0) (bR rfl))) q
theorem GH(s:Nat):PyData.strOk (gH s)=true:=
 match s with
 |0=>by decide +kernel
 |1=>by decide +kernel
 |n+2=>by show PyData.strOk "raidz"=true;decide +kernel
theorem IV(g:Int):Dat 2 (DV g):=mq.tup (.cons (.str _ (GH 0)) (.cons (.int _ _) (.cons (.int _ _) (.cons (mq.tup (.nil 0)) (.nil _)))))
theorem Lh(T:Top):Dat 4 (JQ T):=mq.tup (.cons (.str _ (GH _)) (.cons (.int _ _) (.cons (.int _ _) (.cons (mq.tup (.of fun x hx=>by
 rw [List.mem_map] at hx;refine az fun zG=> ?_;obtain⟨g,_,rfl⟩:=hx;refine zG ?_;exact IV g)) (.nil _)))))
theorem AM(h:PyData.strOk (strOf C.name)=true):Dat 6 (DW C):=mq.tup (.cons (.str _ h) (.cons (.int _ _) (.cons (.int _ _) (.cons (mq.tup (.of fun x hx=>by
 rw [List.mem_map] at hx;refine az fun zG=> ?_;obtain⟨g,_,rfl⟩:=hx;refine zG ?_;exact Lh g)) (.nil _)))))
theorem IW(h:PyData.strOk (strOf C.name)=true)(g:Int):Dat 7 (.tup [.int g,DW C]):=mq.tup (.cons (.int _ _) (.cons (AM h) (.nil _)))
noncomputable def J1(a b c:Int):Nat->d_
 |0=>IF a b
 |1=>IG a b
 |_=>IH c
noncomputable def Eb(a b c:Int):Nat->Nat
 |0=>nA a
 |1=>nB b
 |_=>nC c
structure xF (Cs:Nat->d_) (mk:Nat->Nat):Prop where
 r:∀k,k<3->uD (Cs k)
 l:∀k,k<3->4+(gm (Cs k)).length<=148
 d:∀k,k<3->eU (Cs k)=fI (mk k)
 s:∀k,k<3->PyData.strOk (strOf (Cs k).name)=true
 m:∀k,k<3->mk k<=5
theorem pR{α β γ:Type}(l:List α)(f:α->β)(g:β->List γ):(l.map f).flatMap g=l.flatMap fun x=>g (f x):=by
 induction l with
 |nil=>rfl
 |cons a r ih=>rw [List.map_cons,List.flatMap_cons,List.flatMap_cons,ih]
theorem GI(h5:n<=5):((dm n w).map eZ).flatMap il=(dm n w).flatMap fun P=>il (eZ P):=pR _ _ _
theorem Ec(h5:n<=5):(((dm n w).map eZ).flatMap il).length<=42:=by
 rw [GI h5];have hl:=As n;have one:∀l:List Int,((l.map Plan.mV).flatMap fun P=>il (eZ P)).length=7*l.length:=fun l=>by
  rw [pR,uC (c:=7) fun g ψ=> ?_];rw [qb];rfl
 unfold dm
 split
 ·rw [List.flatMap_cons,ip,one,oH];show(il ⟨1,_,0,(fI n).take 2⟩).length+_<=_;rw [qb];simp only [List.length_take];exact Xx h5 hl (by assumption)
 ·split
  ·rw [List.flatMap_cons,ip,one,oH];show(il ⟨2,_,1,(fI n).take 3⟩).length+_<=_;rw [qb];simp only [List.length_take];exact Xy h5 hl (by assumption)
  ·rw [one];exact Xz h5 hl
theorem wZ{nm:List Nat}{g e:Int}(hn:∀c∈nm,32<=c/\c<127)(hl:nm.length<=5)(hg:0<=g/\g<2 ^ 60)(he:0<=e/\e<2 ^ 32)(h1:1<=n)(h5:n<=5):
  uD ⟨nm,g,e,(dm n w).map eZ⟩/\4+(gm ⟨nm,g,e,(dm n w).map eZ⟩).length<=148/\eU ⟨nm,g,e,(dm n w).map eZ⟩=fI n:=by
 refine az fun zG=> ?_;obtain⟨p1,p2,p3⟩:=nq (w:=w) h1 h5;refine zG ?_;have ht:∀T∈(dm n w).map eZ,JR T:=fun T hT=>by
  rw [List.mem_map] at hT;refine az fun zG=> ?_;obtain⟨P,hP,rfl⟩:=hT;refine zG ?_;exact SV (p1 P hP)
 refine⟨⟨⟨hn,jb hl (bR rfl),hg,he,fun T hT=>(ht T hT).toTopOK,by rw [eW];exact p3⟩,ht,fun h=>p2 (List.map_eq_nil_iff.mp h)⟩, ?_, ?_⟩
 ·have:=Ec (w:=w) h5;unfold gm;simp only [List.length_append,aw,List.length_map];exact XA hl this
 ·show((dm n w).map eZ).flatMap gy=_;rw [pR];exact j8 n w
theorem Li(a:Int):(∀c∈nameA a,32<=c/\c<127)/\PyData.strOk (strOf (nameA a))=true:=by
 have h:=eN a (k:=3) (by decide);unfold nameA;generalize a.fmod 3=x at h;have:x=0\/x=1\/x=2:=by exact Rh h
 rcases this with rfl|rfl|rfl
 ·exact⟨by decide +kernel,by decide +kernel⟩
 ·exact⟨by decide +kernel,by decide +kernel⟩
 ·exact⟨by decide +kernel,by decide +kernel⟩
theorem aeP(a b c:Int):xF (J1 a b c) (Eb a b c):=by
 obtain⟨n1,n2⟩:=Li a;have r1:=eN (a.fdiv 3) (k:=5) (by decide);have r2:=eN (b.fdiv 5) (k:=5) (by decide);have r3:=eN c (k:=5) (by decide);have r4:=eN b (k:=5) (by decide);have r5:=eN (a.fdiv 45) (k:=3) (by decide);have r6:=eN (b.fdiv 75) (k:=4) (by decide);have r7:=eN (c.fdiv 15) (k:=4) (by decide);have h0:=wZ (nm:=nameA a) (g:=70+b.fmod 5) (e:=1+(a.fdiv 45).fmod 3) (n:=nA a) (w:=(a.fdiv 15).fmod 3) n1 (by simp [nameA]) (by exact Ri r4) (by exact XB r5) (by unfold nA;exact J9 r1) (by unfold nA;exact O5 r1);have h1:=wZ (nm:=nameA a) (g:=70+b.fmod 5) (e:=1+(b.fdiv 75).fmod 4) (n:=nB b) (w:=(b.fdiv 25).fmod 3) n1 (by simp [nameA]) (by exact Ri r4) (by exact Rj r6) (by unfold nB;exact J9 r2) (by unfold nB;exact O5 r2);have h2:=wZ (nm:= [122]) (g:=80) (e:=1+(c.fdiv 15).fmod 4) (n:=nC c) (w:=(c.fdiv 5).fmod 3) (by decide) (by decide) (by decide) (by exact Rj r7) (by unfold nC;exact J9 r3) (by unfold nC;exact O5 r3);have three:∀k,k<3->k=0\/k=1\/k=2:=fun k h=>by exact Wo h
 refine⟨fun k hk=> ?_,fun k hk=> ?_,fun k hk=> ?_,fun k hk=> ?_,fun k hk=> ?_⟩
 ·rcases three k hk with rfl|rfl|rfl
  ·exact h0.1
  ·exact h1.1
  ·exact h2.1
 ·rcases three k hk with rfl|rfl|rfl
  ·exact h0.2.1
  ·exact h1.2.1
  ·exact h2.2.1
 ·rcases three k hk with rfl|rfl|rfl
  ·exact h0.2.2
  ·exact h1.2.2
  ·exact h2.2.2
 ·rcases three k hk with rfl|rfl|rfl
  ·exact n2
  ·exact n2
  ·show PyData.strOk (strOf [122])=true;decide +kernel
 ·rcases three k hk with rfl|rfl|rfl
  ·show nA a<=5;unfold nA;exact O5 r1
  ·show nB b<=5;unfold nB;exact O5 r2
  ·show nC c<=5;unfold nC;exact O5 r3
end
section
structure LE (Cs:Nat->d_) (xs:List Int) (m:MH) (s sh cs:Nat):Prop where
 s:m.ob s= .list (xs.map .int)/\s<m.n
 sh:c9 m sh
 cs:∃cl,m.ob cs= .list cl/\cs<m.n/\cl.length=3/\∀k v,cl[k]? =some v->eY m v (Cs k)
theorem LE.keep{Cs:Nat->d_}{xs:List Int}{m m':MH}{s sh cs:Nat}(h:LE Cs xs m s sh cs)(x:Ev m m'):LE Cs xs m' s sh cs:=by
 refine az fun zG=> ?_;obtain⟨⟨a,b⟩,c,cl,d,e,f,g⟩:=h;refine zG ?_;exact⟨⟨x.list a b,eD b x.n⟩,c.yH x,cl,x.list d e,eD e x.n,f,fun k v q=>(g k v q).keep x.nk⟩
section
variable {m:MH}{s sh cs mo ro:Nat}{xs:List Int}{Cs:Nat->d_}{mk:Nat->Nat}{L:LD}
theorem Oi(o:m.ob s= .list (xs.map .int))(hs:s<m.n)(hz:xs.length<=63):
  bL (AF.1 [some (.obj s),none,none,none,none,none,none,none,none,none,none,none] m) fun f fr m'=>f= .next/\∃sh cs,fr= [some (.obj s),some (.obj sh),some (.obj cs),none,none,none,none,none,none,none,none,none]/\LE (J1 (eJ xs 0) (eJ xs 1) (eJ xs 2)) xs m' s sh cs/\Ext m m':=by
 refine bL.cps fun Q hq=> ?_;dsimp only [AF];lcg_off;refine(Gr m).q2 ?_;intro m1 S1 x1;have o1:=(x1.ob _ hs).trans o;have rQ:=eD hs x1.n;lcg_off;refine(yp o1 rQ (by exact lk hz)).mono ?_;intro _ m2 fM;refine az fun zG=> ?_;obtain⟨cs,c0,c1,c2,rfl,h1,h2,h3,C0,C1,C2,x2⟩:=fM;refine zG ?_;lcg_off;refine⟨_,_,rfl,⟨⟨(x2.ob _ rQ).trans o1,eD rQ x2.n⟩,S1.keep x2,_,h3,h2,rfl,fun k v e=> ?_⟩,x1.trans x2⟩
 match k,e with
 |0,e=>simp at e;subst e;exact C0
 |1,e=>simp at e;subst e;exact C1
 |2,e=>simp at e;subst e;exact C2
 |k+3,e=>simp at e
noncomputable def VA(mk:Nat->Nat):List MV:= [.int (mk 0),.int (mk 1),.int (mk 2)]
theorem Oj(h:LE (J1 (eJ xs 0) (eJ xs 1) (eJ xs 2)) xs m s sh cs)(hz:xs.length<=63):
  bL (AG.1 [some (.obj s),some (.obj sh),some (.obj cs),none,none,none,none,none,none,none,none,none] m) fun f fr m'=>f= .next/\∃mo,fr= [some (.obj s),some (.obj sh),some (.obj cs),some (.obj mo),none,none,none,none,none,none,none,none]/\m'.ob mo= .list (VA (Eb (eJ xs 0) (eJ xs 1) (eJ xs 2)))/\mo<m'.n/\Ext m m':=by
 refine bL.cps fun Q hq=> ?_;obtain⟨o,hs⟩:=h.s;dsimp only [AG];lcg_off;refine(jA (k:=0) o (by exact lk hz) (bR rfl)).q1 ?_;rintro _ rfl;lcg_off;refine(jA (k:=1) o (by exact lk hz) (bR rfl)).q1 ?_;rintro _ rfl;lcg_off;refine(jA (k:=2) o (by exact lk hz) (bR rfl)).q1 ?_;rintro _ rfl;lcg_off;have r1:=eN ((eJ xs 0).fdiv 3) (k:=5) (by decide);have r2:=eN ((eJ xs 1).fdiv 5) (k:=5) (by decide);have r3:=eN (eJ xs 2) (k:=5) (by decide);refine⟨_,rfl, ?_,gA _,.new _ _⟩;rw [bc];show _=MO.list [.int ((1+((eJ xs 0).fdiv 3).fmod 5).toNat:Int),.int ((1+((eJ xs 1).fdiv 5).fmod 5).toNat:Int),.int ((1+(eJ xs 2).fmod 5).toNat:Int)];rw [Int.toNat_of_nonneg (by exact Tt r1),Int.toNat_of_nonneg (by exact Tt r2),Int.toNat_of_nonneg (by exact Tt r3)]
noncomputable def jK(p:Nat×Option (Int×Nat)):MV:= .tup [.obj p.1,lZ p.2]
theorem Ol(h:LE Cs xs m s sh cs)(hz:xs.length<=63)(E3:xF Cs mk){z1:Option MV}:
  bL (GD.1 [some (.obj s),some (.obj sh),some (.obj cs),z1,none,none,none,none,none,none,none,none] m) fun f fr m'=>f= .next/\∃(ro:Nat) (L:LD),fr= [some (.obj s),some (.obj sh),some (.obj cs),z1,some (.obj ro),none,none,none,none,none,none,none]/\m'.ob ro= .list (L.map jK)/\ro<m'.n/\(∀p∈L,mO Cs m' p.1 p.2)/\L.length<=6/\Ext m m':=by
 refine bL.cps fun Q hq=> ?_;obtain⟨o,hs⟩:=h.s;refine bL.use ?_;have key:∀(i:Nat) (ys:List Int) (m1:MH),m1.ob i= .list (ys.map .int)->i<m1.n->Ext m m1->ys.length<=6->True:=fun ψ ψ ψ ψ ψ ψ ψ=>trivial;have aeQ:∃(i:Nat) (ys:List Int) (m1:MH),m1.ob i= .list (ys.map .int)/\i<m1.n/\Ext m m1/\ys.length<=6/\
   (if 3<xs.length then i=m.n/\m1=m.new (.list ((c8 xs (some 3) (some 9)).map .int))/\ys=c8 xs (some 3) (some 9) else i=m.n/\m1=m.new (.list [.int 0,.int 5])/\ys= [0,5]):=by
  by_cases hl:3<xs.length
  ·refine⟨m.n,c8 xs (some 3) (some 9),_,bc _ _,gA _,.new _ _, ?_,by rw [if_pos hl];exact⟨rfl,rfl,rfl⟩⟩;have:c8 xs (some 3) (some 9)=(xs.drop 3).take 6:=sU xs (a:=3) (c:=9) (bR rfl);rw [this,ie];exact W_
  ·exact⟨m.n, [0,5],_,bc _ _,Nat.lt_succ_self _,.new _ _,by simp,by rw [if_neg hl];exact⟨rfl,rfl,rfl⟩⟩
 refine az fun zG=> ?_;obtain⟨i,ys,m1,hi,hil,x1,AZ,yI⟩:=aeQ;refine zG ?_;have h1:=h.keep (.of x1);refine Ok.kj i (ys.map .int) (fun fr=>∃o,fr= [o,some (.obj sh),some (.obj cs)]) (fun k zs m2=>Ext m1 m2/\∃L:LD,zs=L.map jK/\(∀p∈L,mO Cs m2 p.1 p.2)/\L.length=k) (by rw [eW];exact LV AZ) ?_ ⟨_,rfl⟩ ?_ ?_ ?_
 ·lcg_off;refine Ok.xA o (by rw [eW];exact Wi hz) ?_
  by_cases hl:3<xs.length
  ·rw [if_pos hl] at yI;refine az fun zG=> ?_;obtain⟨rfl,rfl,rfl⟩:=yI;refine zG ?_;lcg_off;refine Ok.SJ (by rw [eW];exact Xa hl) ?_;lcg_off;refine Ok.Gi o rfl rfl (by rw [eW];exact Wi hz) ?_;have e:c8 (xs.map MV.int) (some 3) (some 9)=(c8 xs (some 3) (some 9)).map MV.int:=by
    unfold c8;rw [eW,List.map_take,List.map_drop]
   rw [e];lcg_off;exact⟨rfl,.refl _, [],rfl,fun ψ h=>(List.not_mem_nil h).elim,rfl⟩
  ·rw [if_neg hl] at yI;refine az fun zG=> ?_;obtain⟨rfl,rfl,rfl⟩:=yI;refine zG ?_;lcg_off;refine Ok.SK (by rw [eW];exact Xb hl) ?_;lcg_off;exact⟨rfl,.refl _, [],rfl,fun ψ h=>(List.not_mem_nil h).elim,rfl⟩
 ·rintro k zs m2 ⟨x2,_⟩;exact(x2.ob _ hil).trans hi
 ·intro k v zs fr m2 e gP lK U hj;refine az fun zG=> ?_;obtain⟨x2,L,rfl,hL,hk⟩:=gP;obtain⟨o',rfl⟩:=lK;refine zG ?_;rw [i_,nK] at e;refine az fun zG=> ?_;obtain⟨x,hx,rfl⟩:=e;refine zG ?_;have h2:=h1.keep (.of x2);refine az fun zG=> ?_;obtain⟨cl,c1,c2,c3,c4⟩:=h2.cs;refine zG ?_;lcg_off;refine(D9 h2.sh c1 c3 c2 c4 (fun k hk=>⟨(E3.r k hk).toConfOK,E3.l k hk⟩) x).mono ?_;intro _ m3 fM;refine az fun zG=> ?_;obtain⟨d,tl,rfl,hd,x3,D⟩:=fM;refine zG ?_;lcg_off;refine⟨⟨_,rfl⟩,x2.trans x3,L++ [(d,tl)],by rw [ja];rfl,fun p hp=> ?_,by rw [ip,hk];rfl⟩;rcases List.mem_append.mp hp with hp|hp
  ·exact(hL p hp).keep (.of x3)
  ·rw [List.mem_singleton] at hp;subst hp;exact D
 ·intro zs m2 fM;refine az fun zG=> ?_;obtain⟨x2,L,rfl,hL,hk⟩:=fM;refine zG ?_;rw [eW] at hk;have x3:=Ext.new m2 (.list (L.map jK));lcg_off;exact⟨_,L,rfl,bc _ _,gA _,fun p hp=>(hL p hp).keep (.of x3),by exact Xc AZ hk,(x1.trans x2).trans x3⟩
end
end
section
variable {eo k:Nat}{QB:Bool->MH->Prop}
structure LS (Cs:Nat->d_) (mk:Nat->Nat) (m:MH) (sh cs mo ro:Nat) (L:LD):Prop where
 sh:c9 m sh
 cs:∃cl,m.ob cs= .list cl/\cs<m.n/\cl.length=3/\∀k v,cl[k]? =some v->eY m v (Cs k)
 mo:m.ob mo= .list (VA mk)/\mo<m.n
 ro:m.ob ro= .list (L.map jK)/\ro<m.n
 dk:∀p∈L,mO Cs m p.1 p.2
 len:L.length<=6
theorem LS.keep{Cs:Nat->d_}{mk:Nat->Nat}{m m':MH}{sh cs mo ro:Nat}{L:LD}(h:LS Cs mk m sh cs mo ro L)(x:Ev m m'):LS Cs mk m' sh cs mo ro L:=by
 refine az fun zG=> ?_;obtain⟨c,⟨cl,d,e,f,g⟩,⟨a,b⟩,⟨a',b'⟩,D,l⟩:=h;refine zG ?_;exact⟨c.yH x,⟨cl,x.list d e,eD e x.n,f,fun k v q=>(g k v q).keep x.nk⟩,⟨x.list a b,eD b x.n⟩,⟨x.list a' b',eD b' x.n⟩,fun p hp=>(D p hp).keep x,l⟩
section
variable {m:MH}{sh cs mo ro:Nat}{Cs:Nat->d_}{mk:Nat->Nat}{L:LD}{a0 z5 z6:Option MV}
theorem LS.Cn(h:LS Cs mk m sh cs mo ro L)(hk:k<3):∃cl v,m.ob cs= .list cl/\cl[k]? =some v/\eY m v (Cs k):=by
 refine az fun zG=> ?_;obtain⟨cl,d,e,f,g⟩:=h.cs;refine zG ?_;exact⟨cl,cl[k],d,iP (by exact Rx hk f),g _ _ (iP (by exact Rx hk f))⟩
theorem Ok.aeR{xs:List MV}(q:QB false m):Ok (Fz (.tup xs) .none m) QB:= .of rfl q
theorem Ok.aeS(q:QB true m):Ok (Fz .none .none m) QB:= .of rfl q
end
section
variable {m:MH}{sh cs mo ro:Nat}{Cs:Nat->d_}{mk:Nat->Nat}{L:LD}{a0 z5 z6:Option MV}
theorem Om(h:LS Cs mk m sh cs mo ro L)(hC:xF Cs mk):
  bL (AH.1 [a0,some (.obj sh),some (.obj cs),some (.obj mo),some (.obj ro),z5,z6,none,none,none,none,none] m) fun f fr m'=>f= .next/\(∃z5 z6,fr= [a0,some (.obj sh),some (.obj cs),some (.obj mo),some (.obj ro),z5,z6,none,none,none,none,none])/\Ev m m':=by
 refine bL.cps fun Q hq=> ?_;dsimp only [AH];refine bL.forL ro (L.map jK) (fun k fr m1=>(∃z5 z6,fr= [a0,some (.obj sh),some (.obj cs),some (.obj mo),some (.obj ro),z5,z6,none,none,none,none,none])/\Ev m m1) ?_ ?_ ?_ ?_
 ·lcg_off;exact⟨rfl,⟨_,_,rfl⟩,.refl _⟩
 ·rintro k fr m1 ⟨_,x1⟩;exact x1.list h.ro.1 h.ro.2
 ·intro k v fr m1 e jI J hj;refine az fun zG=> ?_;obtain⟨⟨z5,z6,rfl⟩,x1⟩:=jI;refine zG ?_;rw [i_,nK] at e;refine az fun zG=> ?_;obtain⟨⟨d,tl⟩,hp,rfl⟩:=e;refine zG ?_;have h1:=h.keep x1;have D:=h1.dk _ (jB hp);unfold jK;lcg_off;refine(Ea h1.sh D hC.r).q1 ?_;intro m2 x2;have h2:=h1.keep x2
  match tl,D with
  |none,D=>
   delta lZ D_;lcg_off;refine Ok.eqn ?_;lcg_off;exact⟨⟨_,_,rfl⟩,x1.trans x2⟩
  |some (g,k'),D=>
   obtain⟨hg,hk⟩:=D.2 g k' rfl;refine az fun zG=> ?_;obtain⟨cl,v,c1,c2,c3⟩:=h2.Cn hk;refine zG ?_;refine az fun zG=> ?_;obtain⟨i,j,xs,rfl,⟨a,q,c,l⟩,_⟩:=id c3;refine zG ?_;delta lZ D_;lcg_off;refine Ok.qa c1 (by exact Cu hk) (by rw [l7];exact c2) ?_;lcg_off;have hR:=(hC.r k' hk).toConfOK;refine(jy c3 hR.sz.1 hR.sz.2).q1 ?_;intro m3 x3;lcg_off;refine Ok.eqt (IW (hC.s k' hk) g) (bR rfl) ?_;lcg_off;exact⟨⟨_,_,rfl⟩,x1.trans (x2.trans (.of x3))⟩
 ·rintro fr m1 ⟨hz,x1⟩;lcg_off;exact⟨hz,x1⟩
theorem Co{p:Nat×Option (Int×Nat)}(h:L[k]? =some p):jV Cs (ck (L.take (k+1)))=jV Cs (ck (L.take k))++(match p.2 with
  |none=> []
  |some (g,j)=> [(Cs j).ed]):=by
 rw [gI h];unfold jV;rw [ja];obtain⟨d,tl⟩:=p;cases tl <;> rfl
theorem Oo(h:LS Cs mk m sh cs mo ro L):
  bL (GF.1 [a0,some (.obj sh),some (.obj cs),some (.obj mo),some (.obj ro),z5,z6,none,none,none,none,none] m) fun f fr m'=>f= .next/\∃eo,fr= [a0,some (.obj sh),some (.obj cs),some (.obj mo),some (.obj ro),z5,z6,some (.obj eo),none,none,none,none]/\m'.ob eo= .list ((jV Cs (ck L)).map .int)/\eo<m'.n/\Ext m m':=by
 refine bL.cps fun Q hq=> ?_;refine bL.use ?_;refine Ok.kj ro (L.map jK) (fun fr=>∃z1 z2,fr= [z1,z2,some (.obj cs)]) (fun k zs m1=>m1=m/\zs=(jV Cs (ck (L.take k))).map .int) (by have:=h.len;rw [eW];exact LV this) ?_ ⟨_,_,rfl⟩ ?_ ?_ ?_
 ·lcg_off;exact⟨rfl,rfl,rfl⟩
 ·rintro k zs _ ⟨rfl,_⟩;exact h.ro.1
 ·intro k v zs fr _ e gP lK U hj;refine az fun zG=> ?_;obtain⟨rfl,rfl⟩:=gP;obtain⟨z1,z2,rfl⟩:=lK;refine zG ?_;rw [i_,nK] at e;refine az fun zG=> ?_;obtain⟨⟨d,tl⟩,hp,rfl⟩:=e;refine zG ?_;have D:=h.dk _ (jB hp);unfold jK
  match tl,hp,D with
  |none,hp,D=>
   unfold lZ;lcg_off;exact⟨⟨_,_,rfl⟩,rfl,by rw [Co hp,List.append_nil]⟩
  |some (g,k'),hp,D=>
   obtain⟨hg,hk⟩:=D.2 g k' rfl;refine az fun zG=> ?_;obtain⟨cl,v,c1,c2,c3⟩:=h.Cn hk;refine zG ?_;refine az fun zG=> ?_;obtain⟨i,j,xs,rfl,⟨a,q,c,l⟩,_⟩:=id c3;refine zG ?_;unfold lZ;lcg_off;refine Ok.qa c1 (by exact Cu hk) (by rw [l7];exact c2) ?_;lcg_off;exact⟨⟨_,_,rfl⟩,rfl,by rw [Co hp,ja];rfl⟩
 rintro zs _ ⟨rfl,rfl⟩;rw [eW,g_];lcg_off;exact⟨_,rfl,bc _ _,gA _,.new _ _⟩
theorem Oq(h:LS Cs mk m sh cs mo ro L)(hC:xF Cs mk){r0:Nat×Int×Nat}{rt:List (Nat×Int×Nat)}(h0:xE Cs (ck L)=r0::rt)(ot:r0∈ck L){z7:Option MV}:
  bL (AI.1 [a0,some (.obj sh),some (.obj cs),some (.obj mo),some (.obj ro),z5,z6,z7,none,none,none,none] m) fun f fr m'=>f= .next/\∃cv ow,fr= [a0,some (.obj sh),some (.obj cs),some (.obj mo),some (.obj ro),z5,z6,z7,some cv,some (.obj ow),none,none]/\eY m' cv (Cs r0.2.2)/\ow<m'.n/\m'.ob ow= .dict ((ck L).foldl (eO Cs (Cs r0.2.2).gR (eU (Cs r0.2.2))) [])/\Ev m m':=by
 refine bL.cps fun Q hq=> ?_;dsimp only [AI]
 set_option tactic.hygienic true in lcg_off
 refine Ok.kj ro (L.map jK) (fun fr=>∃z1 z2,fr= [z1,z2]) (fun k zs m1=>m1=m/\zs=(L.take k).map fun p=> .obj p.1) (by have:=h.len;rw [eW];exact LV this) ?_ ⟨_,_,rfl⟩ ?_ ?_ ?_
 ·lcg_off;exact⟨rfl,rfl,rfl⟩
 ·rintro k zs _ ⟨rfl,_⟩;exact h.ro.1
 ·intro k v zs fr _ e gP lK U hj;refine az fun zG=> ?_;obtain⟨rfl,rfl⟩:=gP;obtain⟨z1,z2,rfl⟩:=lK;refine zG ?_;rw [i_,nK] at e;refine az fun zG=> ?_;obtain⟨⟨d,tl⟩,hp,rfl⟩:=e;refine zG ?_;unfold jK;lcg_off;exact⟨⟨_,_,rfl⟩,rfl,by rw [cW hp,ja];rfl⟩
 set_option tactic.hygienic true in rintro zs _ ⟨rfl,rfl⟩
 rename_i m;rw [eW,g_];have x1:=Ext.new m (.list (L.map fun p=> .obj p.1));have h1:=h.keep (.of x1);lcg_off;refine(yt h1.sh (bc _ _) (gA _) h1.dk (by have:=h.len;exact Q9 this) hC.r h0 ot).mono ?_;intro _ m2 fM;refine az fun zG=> ?_;obtain⟨cv,ow,rfl,c1,c2,c3,c4,x2⟩:=fM;refine zG ?_;lcg_off;exact⟨_,_,rfl,c1,c3,c4,(Ev.of x1).trans x2⟩
theorem Ot{fr:av}(he:m.ob eo= .list ((jV Cs (ck L)).map .int))(DJ:eo<m.n)(iZ:ck L≠ []){a b c d e f g h i j k:Option MV}:
  bL (AJ.1 [a,b,c,d,e,f,g,some (.obj eo),h,i,j,k] m) fun ff fr m'=>ff= .next/\fr= [a,b,c,d,e,f,g,some (.obj eo),h,i,j,k]/\Ext m m':=by
 refine bL.cps fun Q hq=> ?_;dsimp only [AJ];lcg_off;have x1:=Ext.new m (.list []);refine Ok.IE ((x1.ob _ DJ).trans he) (bc _ _) (fun q=>iZ ?_) ?_
 ·rw [eW] at q;unfold jV at q;rw [eW] at q;exact List.length_eq_zero_iff.mp q
 lcg_off;exact⟨rfl,x1⟩
end
end
section
variable {r0:Nat×Int×Nat}{z7 z8 z9:Option MV}{du:Nat}{es:List (Int×MV)}
section
variable {m:MH}{sh cs mo ro:Nat}{Cs:Nat->d_}{mk:Nat->Nat}{L:LD}{a0 z5 z6:Option MV}
theorem Ou{eo:Nat}(h:LS Cs mk m sh cs mo ro L)(he:m.ob eo= .list ((jV Cs (ck L)).map .int)){rt:List (Nat×Int×Nat)}(h0:xE Cs (ck L)=r0::rt)(ot:r0∈ck L){z10 z11:Option MV}:
  bL (GG.1 [a0,some (.obj sh),some (.obj cs),some (.obj mo),some (.obj ro),z5,z6,some (.obj eo),z8,z9,z10,z11] m) fun f fr m'=>f= .next/\fr= [a0,some (.obj sh),some (.obj cs),some (.obj mo),some (.obj ro),z5,z6,some (.obj eo),z8,z9,some (.int r0.2.2),z11]/\Ext m m':=by
 refine bL.cps fun Q hq=> ?_;obtain⟨e0,er,hee⟩:∃e0 er,jV Cs (ck L)=e0::er:=by
  cases q:jV Cs (ck L) with
  |nil=>
   have:=congrArg List.length q;unfold jV at this;rw [eW] at this;have:=List.length_eq_zero_iff.mp this;rw [this] at ot;cases ot
  |cons a r=>exact⟨a,r,rfl⟩
 have UT:m.ob eo= .list ((e0::er).map .int):=by rw [<- hee];exact he
 refine bL.use (Ok.bind ?_);refine Ok.kj ro (L.map jK) (fun fr=>∃z1 z2,fr= [z1,z2,some (.obj eo),some (.obj cs)]) (fun k zs m1=>m1=m/\zs=((ck (L.take k)).filter fun r=>(Cs r.2.2).ed==iV (jV Cs (ck L))).map fun r=> .int (r.2.2:Int)) (by have:=h.len;rw [eW];exact LV this) ?_ ⟨_,_,rfl⟩ ?_ ?_ ?_
 ·lcg_off;exact⟨rfl,rfl,rfl⟩
 ·rintro k zs _ ⟨rfl,_⟩;exact h.ro.1
 ·intro k v zs fr _ e gP lK U hj;refine az fun zG=> ?_;obtain⟨rfl,rfl⟩:=gP;obtain⟨z1,z2,rfl⟩:=lK;refine zG ?_;rw [i_,nK] at e;refine az fun zG=> ?_;obtain⟨⟨d,tl⟩,hp,rfl⟩:=e;refine zG ?_;have D:=h.dk _ (jB hp);unfold jK;cases tl with
  |none=>
   unfold lZ;lcg_off;exact⟨⟨_,_,rfl⟩,rfl,by rw [gI hp,List.append_nil]⟩
  |some q=>
   obtain⟨g,k'⟩:=q;obtain⟨hg,hk⟩:=D.2 g k' rfl;refine az fun zG=> ?_;obtain⟨cl,v,c1,c2,c3⟩:=h.Cn hk;refine zG ?_;refine az fun zG=> ?_;obtain⟨i,j,xs,rfl,⟨a,q,c,l⟩,_⟩:=id c3;refine zG ?_;unfold lZ;lcg_off;refine Ok.qa c1 (by exact Cu hk) (by rw [l7];exact c2) ?_;lcg_off;refine Ok.Td UT ?_;rw [<- hee]
   by_cases hq:(Cs k').ed=iV (jV Cs (ck L))
   ·refine Ok.wK hq ?_;lcg_off;exact⟨⟨_,_,rfl⟩,rfl,by rw [gI hp,List.filter_append,ja,List.filter_cons_of_pos (by rw [hq];exact beq_self_eq_true _)];rfl⟩
   ·refine Ok.Ai hq ?_;lcg_off;exact⟨⟨_,_,rfl⟩,rfl,by rw [gI hp,List.filter_append,ja,List.filter_cons_of_neg (by rw [beq_iff_eq];exact hq)];exact(List.append_nil _).symm⟩
 set_option tactic.hygienic true in rintro zs _ ⟨rfl,rfl⟩
 rename_i m;rw [eW,g_];change Ok _ _;have e1:((ck L).filter fun r=>(Cs r.2.2).ed==iV (jV Cs (ck L)))=r0::rt:=h0;rw [e1];lcg_off;refine Ok.qa (bc _ _) (bR rfl) (v:= .int (r0.2.2:Int)) rfl ?_;lcg_off;exact⟨rfl,.new _ _⟩
theorem Ov{a b c d e f g h i j k l:Option MV}:
  bL (AK.1 [a,b,c,d,e,f,g,h,i,j,k,l] m) fun ff fr m'=>ff= .next/\fr= [a,b,c,d,e,f,g,h,i,j,k,some (.obj m.n)]/\m'=m.new (.dict []):=by
 refine bL.cps fun Q hq=> ?_;dsimp only [AK];lcg_off;refine Ok.of (a:= .obj m.n) (m':=m.new (.dict [])) rfl ?_;lcg_off;exact⟨rfl,rfl⟩
theorem GJ{n:Nat}{g:Int}:(fI n).any (· ==g)=decide (10<=g/\g<10+n):=by
 rw [Bool.eq_iff_iff,List.any_eq_true,decide_eq_true_eq];unfold fI
 constructor
 ·intro z0p;refine az fun zG=> ?_;obtain⟨x,hx,e⟩:=z0p;refine zG ?_;rw [List.mem_map] at hx;refine az fun zG=> ?_;obtain⟨k,hk,rfl⟩:=hx;refine zG ?_;have:=List.mem_range.mp hk;rw [beq_iff_eq] at e;exact WK e this
 ·intro hx;refine⟨g,List.mem_map.mpr ⟨(g-10).toNat,List.mem_range.mpr (by exact WL hx),by exact WM hx⟩,by simp⟩
theorem Ow{k:Nat}(hk:k<3):(VA mk)[k]? =some (.int (mk k)):=by
 have:k=0\/k=1\/k=2:=by exact Wo hk
 rcases this with rfl|rfl|rfl <;> rfl
theorem Lj{m0:MH}(h:LS Cs mk m0 sh cs mo ro L)(hC:xF Cs mk)(hm:Ev m0 m)(VB:m0.n<=du)(C6:du<m.n)(hd:m.ob du= .dict [])(ot:r0.2.2<3):
  bL (wX.1 [a0,some (.obj sh),some (.obj cs),some (.obj mo),some (.obj ro),z5,z6,z7,z8,z9,some (.int r0.2.2),some (.obj du)] m) fun f fr m'=>f= .next/\(∃z5 z6,fr= [a0,some (.obj sh),some (.obj cs),some (.obj mo),some (.obj ro),z5,z6,z7,z8,z9,some (.int r0.2.2),some (.obj du)])/\
   m'.ob du= .dict ((ck L).foldl (eO Cs (Cs r0.2.2).gR (eU (Cs r0.2.2))) [])/\Ev m0 m'/\du<m'.n/\(∀t,t<m.n->t≠du->m'.ob t=m.ob t)/\m.n<=m'.n:=by
 refine bL.cps fun Q hq=> ?_;have hD:=hC.d _ ot;rw [hD] at hq;dsimp only [wX];refine bL.forL ro (L.map jK) (fun k fr m1=>(∃z5 z6,fr= [a0,some (.obj sh),some (.obj cs),some (.obj mo),some (.obj ro),z5,z6,z7,z8,z9,some (.int r0.2.2),some (.obj du)])/\Ev m0 m1/\du<m1.n/\m1.ob du= .dict ((ck (L.take k)).foldl (eO Cs (Cs r0.2.2).gR (fI (mk r0.2.2))) [])/\(∀t,t<m.n->t≠du->m1.ob t=m.ob t)/\m.n<=m1.n) ?_ ?_ ?_ ?_
 ·lcg_off;exact⟨rfl,⟨_,_,rfl⟩,hm,C6,hd,fun ψ ψ ψ=>rfl,dT _⟩
 ·intro k fr m1 mL;refine az fun zG=> ?_;obtain⟨_,x1,_⟩:=mL;refine zG ?_;exact x1.list h.ro.1 h.ro.2
 ·intro k v fr m1 e jI J hj;refine az fun zG=> ?_;obtain⟨⟨z5,z6,rfl⟩,x1,mM,o1,ht,D5⟩:=jI;refine zG ?_;rw [i_,nK] at e;refine az fun zG=> ?_;obtain⟨⟨d,tl⟩,hp,rfl⟩:=e;refine zG ?_;have h1:=h.keep x1;have D:=h1.dk _ (jB hp);have hlen:=sM (Cs:=Cs) (G:=(Cs r0.2.2).gR) (D:=fI (mk r0.2.2)) (ck (L.take k)) [];have Cw:=oq (L.take k);have TR:(L.take k).length<=6:=by have:=h.len;rw [ie];exact WN this
  generalize FJ:(ck (L.take k)).foldl (eO Cs (Cs r0.2.2).gR (fI (mk r0.2.2))) []=acc at o1 hlen;rw [gI hp,List.foldl_append,FJ] at hj;unfold jK;cases tl with
  |none=>
   unfold lZ;lcg_off;exact⟨⟨_,_,rfl⟩,x1,mM,o1,ht,D5⟩
  |some q=>
   obtain⟨g,k'⟩:=q;obtain⟨hg,hk⟩:=D.2 g k' rfl;refine az fun zG=> ?_;obtain⟨cl,v,c1,c2,c3⟩:=h1.Cn hk;refine zG ?_;refine az fun zG=> ?_;obtain⟨cl0,v0,VC,VD,VE⟩:=h1.Cn ot;refine zG ?_;refine az fun zG=> ?_;obtain⟨i,j,xs,rfl,⟨a,q,c,l⟩,_⟩:=id c3;refine zG ?_;refine az fun zG=> ?_;obtain⟨i0,j0,Vo,rfl,⟨a0',q0,c0,l0⟩,_⟩:=id VE;refine zG ?_;have step:List.foldl (eO Cs (Cs r0.2.2).gR (fI (mk r0.2.2))) acc [(d,g,k')]=eO Cs (Cs r0.2.2).gR (fI (mk r0.2.2)) acc (d,g,k'):=rfl;rw [step] at hj;unfold lZ;lcg_off;refine Ok.ind o1 ?_;cases u7:lz g acc with
   |some y=>
    simp only [Option.isSome_some];lcg_off;refine⟨⟨_,_,rfl⟩,x1,mM, ?_,ht,D5⟩;rw [o1];unfold eO;rw [if_neg (fun hh=>by rw [u7] at hh;exact absurd hh.2 (by simp))]
   |none=>
    simp only [Option.isSome_none];lcg_off;refine Ok.qa c1 (by exact Cu hk) (by rw [l7];exact c2) ?_;lcg_off;refine Ok.qa VC (by exact Cu ot) (by rw [l7];exact VD) ?_;lcg_off
    by_cases QS:(Cs k').gR=(Cs r0.2.2).gR
    ·refine Ok.wK QS ?_;lcg_off;refine Ok.qa h1.mo.1 (by exact Cu ot) (by rw [l7];exact Ow ot) ?_;lcg_off
     by_cases yS:g<10+(mk r0.2.2:Int)
     ·lcg_off;refine Ok.Te o1 ⟨by simp at hlen;exact WO Cw TR hlen,mM⟩ ?_;lcg_off;refine⟨⟨_,_,rfl⟩,x1.oY VB,mM, ?_,fun t h1 h2=>by rw [cc h2];exact ht t h1 h2,D5⟩;rw [fK,Cm u7];unfold eO;rw [if_pos ⟨⟨QS,by rw [GJ,decide_eq_true_eq];exact⟨hg.1,yS⟩⟩,u7⟩]
     ·lcg_off;refine⟨⟨_,_,rfl⟩,x1,mM, ?_,ht,D5⟩;rw [o1];unfold eO;rw [if_neg (fun hh=>by have:=hh.1.2;rw [GJ,decide_eq_true_eq] at this;exact yS this.2)]
    ·refine Ok.Ai QS ?_;lcg_off;refine⟨⟨_,_,rfl⟩,x1,mM, ?_,ht,D5⟩;rw [o1];unfold eO;rw [if_neg (fun hh=>QS hh.1.1)]
 ·intro fr m1 fM;refine az fun zG=> ?_;obtain⟨hz,x1,mM,o1,ht,D5⟩:=fM;refine zG ?_;rw [eW,g_] at o1;lcg_off;exact⟨hz,o1,x1,mM,ht,D5⟩
theorem Lk(ns:List Int):∃ds,nT (ns.map MV.int)=some ds/\PyData.canLayAll0 ds=true/\PyData.depthAll ds<=0:=mq.of fun x hx=>by
 rw [List.mem_map] at hx;refine az fun zG=> ?_;obtain⟨g,_,rfl⟩:=hx;refine zG ?_;exact Dat.int _ _
theorem Ok.aeY{QB:Bool->MH->Prop}{i j:Nat}{ns:List Int}(hi:m.ob i= .list (ns.map .int))(hj:m.ob j= .list (ns.map .int))(q:QB true m):Ok (vr (.obj i) (.obj j) m) QB:=by
 refine az fun zG=> ?_;obtain⟨ds,e,c,l⟩:=Lk ns;refine zG ?_;have pk:pC m i=some (.list ds):=(cC hi).trans (aV e);have Ff:pC m j=some (.list ds):=(cC hj).trans (aV e);have hc:(PyData.list ds).canLay0=true:=by simpa only [PyData.canLay0] using c
 have hd:(PyData.list ds).depth<=10:=by simp only [PyData.depth];exact WQ l
 have hE:zS (some (.list ds)) (some (.list ds))=some true:=by
  refine(if_pos ?_).trans (congrArg some (SeqAt.eqv_refl _ hc));rw [hc,decide_eq_true (by rw [Nat.min_self];exact hd)];rfl
 exact .of (a:=true) (aV ((cC hi).trans ((cC hj).trans ((if_pos rfl).trans (by rw [pk,Ff];exact hE))))) q
theorem Ok.sorted{Q:MV->MH->Prop}{d:Nat}(o:m.ob d= .dict es)(h:es.length<64)(q:Q (.obj m.n) (m.new (.list ((sortI (es.map (·.1))).map .int)))):Ok (zW (.obj d) m) Q:= .of ((Af o).trans (if_pos h)) q
theorem Ll{ow:Nat}{cv:MV}(h:LS Cs mk m sh cs mo ro L)(hC:xF Cs mk)(ot:r0.2.2<3)(Oe:eY m cv (Cs r0.2.2))(C6:du<m.n)(hd:m.ob du= .dict es)(hol:ow<m.n)(ho:m.ob ow= .dict es)(Bz:es.length<64):
  bL (wY.1 [a0,some (.obj sh),some (.obj cs),some (.obj mo),some (.obj ro),z5,z6,z7,some cv,some (.obj ow),some (.int r0.2.2),some (.obj du)] m) fun f fr m'=>f= .next/\fr= [a0,some (.obj sh),some (.obj cs),some (.obj mo),some (.obj ro),z5,z6,z7,some cv,some (.obj ow),some (.int r0.2.2),some (.obj du)]/\Ext m m':=by
 refine bL.cps fun Q hq=> ?_;refine az fun zG=> ?_;obtain⟨cl0,v0,VC,VD,VE⟩:=h.Cn ot;refine zG ?_;have hR:=(hC.r _ ot).toConfOK;refine az fun zG=> ?_;obtain⟨i,j,xs,rfl,⟨a,q,c,l⟩,_⟩:=id Oe;refine zG ?_;obtain⟨_,fY⟩:=h.cs;dsimp only [wY];lcg_off;refine(jy Oe hR.sz.1 hR.sz.2).q1 ?_;intro m1 x1;have Ft:cs<m.n:=by obtain⟨cl,d,e,f,g⟩:=h.cs;exact e
 have c31:=VE.keep (.of x1);refine az fun zG=> ?_;obtain⟨i0,j0,Vo,rfl,⟨a0',q0,c0,l0⟩,_⟩:=id c31;refine zG ?_;lcg_off;refine Ok.qa ((x1.ob _ Ft).trans VC) (by exact Cu ot) (by rw [l7];exact VD) ?_;lcg_off;refine(jy c31 hR.sz.1 hR.sz.2).q1 ?_;intro m2 x2;lcg_off;have GK:=x1.trans x2;refine Ok.eqt (AM (hC.s _ ot)) (bR rfl) ?_;lcg_off;refine Ok.sorted ((GK.ob _ hol).trans ho) Bz ?_;have x3:=Ext.new m2 (.list ((sortI (es.map (·.1))).map .int));have o3:=bc m2 (.list ((sortI (es.map (·.1))).map .int));have n3:m2.n<(m2.new (.list ((sortI (es.map (·.1))).map .int))).n:=gA _;generalize m2.new (.list ((sortI (es.map (·.1))).map .int))=m3 at x3 o3 n3;lcg_off;refine Ok.sorted (((GK.trans x3).ob _ C6).trans hd) Bz ?_;have x4:=Ext.new m3 (.list ((sortI (es.map (·.1))).map .int));have o4:=bc m3 (.list ((sortI (es.map (·.1))).map .int));generalize m3.new (.list ((sortI (es.map (·.1))).map .int))=m4 at x4 o4;lcg_off;refine Ok.aeY ((x4.ob _ n3).trans o3) o4 ?_;lcg_off;exact⟨rfl,(GK.trans x3).trans x4⟩
end
end
section
theorem uF{prog:Program}{w:World}{g:Heap}{A:Around}{s:Shared}{ρ:Nat->Addr}{m:MH}{n:Nat}{f:Addr}{o:Obj}{fd:FuncData}{body:List Stmt}{ps rest gs:List Str}{ys:List MV}{us:List Value}{args:Args}{R:Result->Shared->Prop}
  (ho:s.heap.get? f=some o)(hd:o.data= .func fd)(hb:fd.body= .stmts body)(qh:s.heap.CodeRec fd.code fd.qualname)(zg:fd.globals=mainGlobals)(zh:fd.builtins=builtinsNs)(uV:fd.closure= [])
  (qk:BindsTo s fd args (ps.zip us))(u_:BO ⟨ps++rest,gs,fd.scope.names⟩ fd.scope=true)(hl:ps.length=us.length)
  (hA:dj (n+1) A)(S:OK prog w g s ρ m)(r:bI ρ m.n s.heap ys us)
  (hW:∀s₁,OK prog w g s₁ ρ m->dh fk s ρ m s₁ ρ m->Sub s.heap s₁.heap->dw ⟨ps++rest,gs,fd.scope.names⟩ (callEnvC fd s.heap.objs.size f) (ys.map some++List.replicate rest.length none) g s₁ ρ m.n->(∀a,Own (callEnvC fd s.heap.objs.size f) a->s.heap.get? a=none)->
   ay s₁ (fun e s'=>ay s' (fun e' kK=>R (.error e') kK) (A.deeper (callEnvC fd s.heap.objs.size f)) (model prog w) (fun ψ kK=>R (.error e) kK) (leaving (callEnvC fd s.heap.objs.size f) e)) (A.deeper (callEnvC fd s.heap.objs.size f)) (model prog w) (fun fl s'=>R (.ok (.ret (match fl with| .ret v=>v|_=> .none))) s') (execs body (callEnvC fd s.heap.objs.size f))):
  cQ (model prog w) A (.call (.ref f) args) R s:=by
 simp only [BO,Bool.and_eq_true,beq_iff_eq,List.all_eq_true,Bool.not_eq_true',decide_eq_true_eq,Bool.or_eq_true] at u_;obtain⟨hk,Hi,yT,zi,Mz,HG,Mt,Mu⟩:=u_;have rL:∀ {x:Str} {n:Nat},fd.scope.names.lookup x=some .cell->((cellsFrom n fd.scope.names []).lookup x).isSome=true:=fun h=>cellsFrom_some (.inl (lookup_mem h));have Uq:∀x∈ps,fd.scope.names.lookup x=some .local\/fd.scope.names.lookup x=some .cell:=fun x hx=>zi x (List.mem_append_left _ hx);refine oM (by have:=hA.1;exact Wr this) ho hd S.now.nolimit qh hb qk uV (fun x hx=> ?_) (fun s₁ C=> ?_) Hi yT hk
 ·rcases Uq x.1 (List.of_mem_zip hx).1 with h|h
  ·exact .inl h
  ·exact .inr ⟨h,rL h⟩
 generalize qS:callEnvC fd s.heap.objs.size f=env at C ⊢;have zj:env.scope=fd.scope:=by rw [<- qS];rfl
 have fY:env.cells=cellsFrom (s.heap.objs.size+1) fd.scope.names []:=by rw [<- qS];rfl
 have hL:env.locals=s.heap.objs.size:=by rw [<- qS];rfl
 have kM:∀x,env.kindOf x=fd.scope.names.lookup x:=fun x=>by unfold Env.kindOf;rw [zj]
 obtain⟨h₁,tk,rQ⟩:=C.toInCall.same;have wc:=C.toInCall.keep;have S1:OK prog w g s₁ ρ m:=S.grow wc;have V1:dh fk s ρ m s₁ ρ m:= .grow wc (by rw [rQ]) (by rw [rQ]);have nQ:∀a,Own env a->s.heap.get? a=none:=fun a ha=>by
  rcases ha with rfl|⟨x,hx⟩
  ·rw [hL];exact cA _
  ·have:=C.above x a (lookup_mem hx);rw [hL] at this;cases q:s.heap.get? a with
   |none=>rfl
   |some o=>exact absurd (Heap.lt_size q) (Nat.not_lt.mpr (Nat.le_of_lt this))
 have E8:ps.Nodup:=(List.nodup_append.mp HG).1;have E_:∀ {i:Nat} {x:Str},(ps++rest)[i]? =some x->(∃y u,ps[i]? =some x/\ys[i]? =some y/\us[i]? =some u/\a_ ρ m.n s₁.heap y u/\slot (ys.map some++List.replicate rest.length none) i=some y)\/slot (ys.map some++List.replicate rest.length none) i=none:=fun {i x} hi=>by
  have ke:ys.length=us.length:=r.length
  by_cases h:i<ps.length
  ·left
   rw [List.getElem?_append_left h] at hi;have hy:i<ys.length:=by exact Ws hl ke h
   obtain⟨u,hu,ru⟩:=r.get (iP hy);refine⟨ys[i],u,hi,iP hy,hu,ru.mono V1.mono, ?_⟩;unfold slot;rw [List.getElem?_append_left (by simpa using hy),List.getElem?_map,List.getElem?_eq_getElem hy];rfl
  ·right
   unfold slot;rw [List.getElem?_append_right (by rw [eW];exact Wt hl ke h),List.getElem?_replicate]
   split
   ·rename_i q;split at q <;> first|(cases q;rfl)|cases q
   ·rfl
 have F1:dw ⟨ps++rest,gs,fd.scope.names⟩ env (ys.map some++List.replicate rest.length none) g s₁ ρ m.n:=by
  refine⟨⟨by rw [zj];exact hk,by rw [zj],by rw [<- qS];exact zg,by rw [<- qS];exact zh,zi,Mz,HG,Mt,Mu⟩,⟨_,C.toInCall.ns,fun i x hi C5=> ?_⟩,fun i x hi C5=> ?_,fun a ha=> ?_,fun x y a hx hy=> ?_⟩
  ·rcases E_ hi with⟨y,u,q1,q2,q3,q4,q5⟩|q
   ·rw [q5];exact⟨u,ug E8 q1 q3 ((kM x).trans C5),q4⟩
   ·rw [q];trivial
  ·obtain⟨a,ha⟩:=Option.isSome_iff_exists.mp (rL (n:=s.heap.objs.size+1) C5);rw [<- fY] at ha;refine⟨a,_,ha,C.cell x a ha, ?_⟩;rcases E_ hi with⟨y,u,q1,q2,q3,q4,q5⟩|q
   ·rw [q5];refine⟨u,uh E8 q1 q3 ?_,q4⟩;rw [kM x];rw [show fd.scope.names.lookup x=some .cell from C5]
    decide
   ·rw [q];trivial
  ·have h0:=nQ a ha;refine⟨S.pg h0,S.lC h0, ?_⟩;rcases ha with rfl|⟨x,hx⟩
   ·obtain⟨o,es,ep,q,_⟩:=C.toInCall.ns;exact⟨o,q⟩
   ·obtain⟨o,q,_⟩:=C.cell x a hx;exact⟨o,q⟩
  ·exact rO C.apart (lookup_mem hx) (lookup_mem hy)
 subst qS;exact hW s₁ S1 V1 wc F1 nQ
end
section
variable {x:Str}{a l:Addr}{vs:List Value}{ep:Nat}{xs:List MV}
def Ed(prog:Program)(w:World)(g:Heap)(n:Nat)(sg:Sg)(st:Stmt)(c:SM):Prop:=
 ∀A env fr s ρ m,dj n A->OK prog w g s ρ m->dw sg env fr g s ρ m.n->eX prog w g A sg env (exec st env) (c fr m) s ρ m
section
variable {prog:Program}{w:World}{g:Heap}{n:Nat}{sg:Sg}
theorem fX.toG{st:Stmt}{c:SM}(h:fX n sg st c):Ed prog w g n sg st c:=fun A env fr s ρ m=>h prog w A g env fr s ρ m
theorem BB(i:Nat){p p':Pos}{e:Expr}{c:av->MM MV}(hk:sg.ks[i]? =some x)(h:ph prog w g n sg e c)(hc:lP e=true):Ed prog w g n sg (.Assign [.Name x p] e p') (SM.use c (SM.put i)):=by
 intro A env fr s ρ m hA S F;refine .use fun v m1 e1=>lB ((h A _ _ _ _ _ hA S F).step e1 fun a s1 ρ1 S1 V1 r1=> ?_) (ku hc);exact aj<|nt i S1 (F.dP V1) hk r1 fun s2 S2 V2 ψ F2=>⟨ρ1,S2,V1.weak.comp V2,.next,F2⟩
noncomputable def refOf:Value->Option Addr
 | .ref a=>some a
 |_=>none
theorem xG{u:Value}(e:refOf u=some a):u= .ref a:=by
 cases u with
 |ref b=>exact congrArg _ (dZ e)
 |_=>exact cj e
noncomputable def GL(fr:av)(i:Nat):Option Addr:=(slot fr i).bind fun x=>x.Py.bind refOf
theorem qO{fr:av}{i:Nat}(e:GL fr i=some a):slot fr i=some (.fn (.ref a)):=by
 obtain⟨x,h1,e1⟩:=bj e;obtain⟨u,h2,e2⟩:=bj e1;cases x with
 |fn v=>rw [h1,xG ((congrArg refOf (dZ h2)).trans e2)]
 |_=>exact cj h2
noncomputable def Ox(l:Addr)(xs:List MV):av->MM MV:=fun fr m=>(GL fr 0).bind fun l'=>if l'=l then some (.obj m.n,m.new (.list (c8 xs none (some 63)))) else none
theorem ae0{p0 p1 p2 p3:Pos}{k:Nat}(hk:sg.ks[0]? =some x)(hg:g.get? l=some (fO vs ep))(hv:∀ρ n h,bI ρ n h xs vs)(hz:xs.length<=100000):
  ph prog w g n sg (.Subscript (.Name x p0) (.Slice none (some (.Constant (.int 63) k p1)) none p2) p3) (Ox l xs):=by
 intro A env fr s ρ m hA S F;refine .opt fun l' hs=> .ite fun hl=> ?_;subst hl;have hs:=qO hs;have e1:rd fr 0 m=some (.fn (.ref l'),m):=by unfold rd;rw [hs]
 refine jc ((dI (n:=n) (p:=p0) 0 hk _ _ A _ _ _ _ _ _ hA S F).step e1 fun a s1 ρ1 S1 V1 r1=> ?_);obtain rfl:=r1.rj rfl;refine wA (fL (n:=n)) (b8 (n:=n) (ag (k:=k) (p:=p1))) hA S1 (F.dP V1) (x:= .none) (y:= .int 63) rfl rfl fun ya za sl s3 ρ3 S3 V3 r2 r3 zO=> ?_;have V:=V1.comp V3;have ho:=S3.sub _ _ hg;have hL:s3.heap.IsList l' vs.toArray:=⟨_,ho,rfl,_,rfl⟩;have rs:=hv ρ3 m.n s3.heap;refine zL (id:="list.__getitem__") hL.typeIs slot_list_getitem.lookup (aj (wpAny_getItem_list_slice hL zO (r2.part rfl) (r3.part rfl) .none (fun e=>nomatch e) ?_ (by rw [fW, <- rs.length,sizeLine_eq];exact Ha hz))) rfl;rw [slicePick_plain];refine sW (K:=fun v s'=>lu prog w g fk a_ s ρ m (.obj m.n) (m.new (.list (c8 xs none (some 63)))) v s') (mo:= .list (c8 xs none (some 63))) (t:=s3.toks) S3 rfl (fun M=>⟨c8 vs none (some 63),0, ?_,(rs.cut none (some 63)).mono M⟩) fun ρ' s' S' V'=>⟨ρ',S',V.comp V',.obj (gA _)⟩;simp only [c8,List.size_toArray]
theorem ae1(hg:g.get? l=some (fO vs ep))(hv:∀ρ n h,bI ρ n h xs vs)(hz:xs.length<=100000):Ed prog w g n mP (fc 0) (SM.use (Ox l xs) (SM.put 0)):=
 BB (x:="script") 0 rfl (ae0 (x:="script") rfl hg hv hz) rfl
end
end
section
variable {kvs:List (Int×Value)}
section
variable {prog:Program}{w:World}{g:Heap}{n:Nat}{sg:Sg}
noncomputable def GN(kvs:List (Int×Value)):Src:=⟨fun ψ=>some kvs.length,fun k ψ=>kvs[k]?.map fun p=> .int p.1⟩
noncomputable def ciD(i:Nat)(d:Addr)(kvs:List (Int×Value)):av->MM Src:=fun fr m=>(GL fr i).bind fun d'=>if d'=d then some (GN kvs,m) else none
theorem IX{aU:Expr}{x:Str}{p:Pos}{i:Nat}{d:Addr}{ep:Nat}(hk:sg.ks[i]? =some x)(hd:g.DictAt (intKind prog w) d kvs ep)(sd:(d==sysModules)=false):
  CS prog w g n sg aU (.Name x p) (ciD i d kvs):=by
 intro A env fr s ρ m hA S F src m' e N hN K q;obtain⟨d',hs,e⟩:=bj e;have hs:=qO hs;obtain⟨rfl,q0⟩:=ky e;cases q0;have e1:rd fr i m=some (.fn (.ref d'),m):=by unfold rd;rw [hs]
 refine(dI (n:=n) (p:=p) i hk _ _ A _ _ _ _ _ _ hA S F).step e1 fun a s1 ρ1 S1 V1 r1=> ?_;obtain rfl:=r1.rj rfl;have Kq:s1.heap.DictAt (intKind prog w) d' kvs ep:=hd.keep S1.sub;refine aj (wpAny_pyIter_dict sd Kq ?_);have hNk:N=kvs.length:=by cases hN;rfl
 subst hNk;have rM:Sub s1.heap (s1.heap.push {cls:= .type "dict_keyiterator",data:= .fields #[.ref d',.int 0 0,.int kvs.length 0,.int ep 0]}):=fun a o e=>gS _ e;have nQ:=cA s1.heap;have rk:∀ {k:Nat} {h:Heap},h.IsKeyIter s1.heap.objs.size d' k kvs.length ep->∃o,h.get? s1.heap.objs.size=some o/\¬l9 o:=fun⟨o,e,c,dd⟩=>⟨o,e,iq c rfl rfl⟩;refine q _ _ ρ1 (fun a=>a=s1.heap.objs.size) (fun k h=>h.IsKeyIter s1.heap.objs.size d' k kvs.length ep) (fun k h u=>h.IsKeyIter s1.heap.objs.size d' k kvs.length ep) (S1.grow rM) (V1.comp (.grow rM rfl rfl)) (fun a ha=>ha▸⟨V1.old nQ,S1.lC nQ⟩) ⟨_,iQ _ rfl,rfl,rfl⟩ ?_;refine⟨fun k h h' ⟨o,e,r⟩ hk=>⟨o,hk _ _ rfl e,r⟩,fun k h st a ha=>ha▸rk st,fun k h u st a ha=>ha▸rk st,fun s2 ρ2 m2 k v K2 HP S2 h4 h5 h6 h7 st H qq=> ?_,fun s2 ρ2 m2 K2 S2 h4 h5 h6 st H qq=> ?_,fun k s2 K2 st hK=> ?_,fun k s2 u K2 st hK=> ?_⟩
 ·have Lm:s2.heap.DictAt (intKind prog w) d' kvs ep:=hd.keep S2.sub;obtain⟨⟨key,val⟩,Oy⟩:∃kv,kvs[k]? =some kv:=⟨_,iP HP⟩;have hv:v= .int key:=by
   have:(GN kvs).item k m2=some (.int key):=by show Option.map _ (kvs[k]?)=_;rw [Oy];rfl
   rw [h7] at this;injection this
  subst hv;refine aj (wpAny_pyNext_dict_item st Lm Oy fun kv h' his hit uf=> ?_);obtain⟨t,rfl⟩:=Value.isInt_shape his;exact qq (.int key t) _ ⟨fun a o ha e=>(uf.2 a ha).trans e,rfl,rfl⟩ hit (.int _ _)
 ·have Lm:s2.heap.DictAt (intKind prog w) d' kvs ep:=hd.keep S2.sub;exact aj (wpAny_pyNext_dict_end (i:=kvs.length) hA.2.2 st Lm (List.getElem?_eq_none (dT _)) fun h' hx=>qq _ ⟨fun a o ha e=>hx a o ha e,rfl,rfl⟩)
 ·exact aj (wpAny_pyIter_keyiter st hK)
 ·obtain⟨o,e,c,dd⟩:=id st;exact aj (BM e c rfl (hK s2 ⟨fun ψ ψ ψ e=>e,rfl,rfl⟩ st))
noncomputable def ceD(ow du:Addr)(kvs:List (Int×Value)):av->MM MV:=fun fr m=>(slot fr 0).bind fun x=>x.int?.bind fun k=>(GL fr 1).bind fun o=>(GL fr 2).bind fun d=>(valueAt kvs k).bind fun v=>(refOf v).bind fun a=>if o=ow/\d=du then some (.bool true,m) else none
theorem Ln{xn xo xd:Str}{po pd pn pn' p1 p2 p3:Pos}{ow du:Addr}{QT Nj:Nat}(h0:sg.ks[0]? =some xn)(h1:sg.ks[1]? =some xo)(h2:sg.ks[2]? =some xd)
  (ho:g.DictAt (intKind prog w) ow kvs QT)(hd:g.DictAt (intKind prog w) du kvs Nj):
  ph prog w g n sg (.Compare (.Subscript (.Name xo po) (.Name xn pn) p1) [.Is] [.Subscript (.Name xd pd) (.Name xn pn') p2] p3) (ceD ow du kvs):=by
 intro A env fr s ρ m hA S F;refine .opt fun x q0=> .opt fun k hx=> .opt fun o q1=> .opt fun d q2=> .opt fun v ha=> .opt fun a hv=> .ite fun GC=> ?_;obtain rfl:=xG hv;have q1:=qO q1;have q2:=qO q2;obtain⟨rfl,rfl⟩:=GC;have hx:x= .int k:=by cases x with
  |int j=>exact congrArg _ (dZ hx)
  |_=>exact cj hx
 subst hx;have e0:rd fr 0 m=some (.int k,m):=by unfold rd;rw [q0]
 have e1:rd fr 1 m=some (.fn (.ref o),m):=by unfold rd;rw [q1]
 have e2:rd fr 2 m=some (.fn (.ref d),m):=by unfold rd;rw [q2]
 refine tK ?_ rfl;refine jc ((dI (n:=n) (p:=po) 1 h1 _ _ A _ _ _ _ _ _ hA S F).step e1 fun v1 s1 ρ1 S1 V1 r1=> ?_);obtain rfl:=r1.rj rfl;refine(dI (n:=n) (p:=pn) 0 h0 _ _ A _ _ _ _ _ _ hA S1 (F.dP V1)).step e0 fun v2 s2 ρ2 S2 V2 r2=> ?_;obtain⟨_,rfl⟩:=r2.iD rfl;have Lm:=(ho.keep S2.sub).dictOf;refine zL Lm.typeIs slot_dict_getitem.lookup (aj (wpAny_getItem_of (knd:=intKind prog w) (k:=k) (by simp [intKind,Value.isInt]) Lm.mapOf ha ?_)) rfl;have S3:OK prog w g {s2 with toks:=s2.toks+1} ρ2 m:=S2.grow fun ψ ψ e=>e;have V3:dh fk s2 ρ2 m {s2 with toks:=s2.toks+1} ρ2 m:= .grow (fun ψ ψ e=>e) rfl rfl;have Oz:=(V1.comp V2).comp V3;refine jc ((dI (n:=n) (p:=pd) 2 h2 _ _ A _ _ _ _ _ _ hA S3 (F.dP Oz)).step e2 fun v4 s4 ρ4 S4 V4 r4=> ?_);obtain rfl:=r4.rj rfl;refine(dI (n:=n) (p:=pn') 0 h0 _ _ A _ _ _ _ _ _ hA S4 ((F.dP Oz).dP V4)).step e0 fun v5 s5 ρ5 S5 V5 r5=> ?_;obtain⟨_,rfl⟩:=r5.iD rfl;have Mw:=(hd.keep S5.sub).dictOf;refine zL Mw.typeIs slot_dict_getitem.lookup (aj (wpAny_getItem_of (knd:=intKind prog w) (k:=k) (by simp [intKind,Value.isInt]) Mw.mapOf ha ?_)) rfl;have S6:OK prog w g {s5 with toks:=s5.toks+1} ρ5 m:=S5.grow fun ψ ψ e=>e;have V6:dh fk s5 ρ5 m {s5 with toks:=s5.toks+1} ρ5 m:= .grow (fun ψ ψ e=>e) rfl rfl;exact aj (wpAny_is_ref_self ⟨ρ5,S6,((Oz.comp V4).comp V5).comp V6,.bool _⟩)
end
end
section
variable {A:Around}{env:Env}{ca:av->MM (List MV)}{f:Value}{pos:Pos}
section
variable {prog:Program}{w:World}{g:Heap}{n:Nat}{sg:Sg}
def IY(prog:Program)(w:World)(g:Heap)(n:Nat)(sg:Sg)(es:List Expr)(c:av->MM (List MV)):Prop:=
 ∀A env fr s ρ m pos,dj n A->OK prog w g s ρ m->dw sg env fr g s ρ m.n->Comes bI s ρ m prog w g A (c fr m) (spliced (backTo pos (starEach es env)))
theorem IZ{e:Expr}{c:av->MM MV}(h:ph prog w g n sg e c)(he:∀env,starEach [e] env=(false,eval e env)::starEach [] env):IY prog w g n sg [e] (AC c (Kc [])):=by
 intro A env fr s ρ m pos hA S F;refine .bind fun x m' e1=>oK ((h A _ _ _ _ _ hA S F).step e1 fun a s1 ρ1 S1 V1 r1=> ?_) (he env);exact(ab (n:=n) _ _ A _ _ fr _ _ _ pos hA S1 (F.dP V1)).step (m':=m') rfl fun v s2 ρ2 S2 V2 r2=>⟨ρ2,S2,V1.comp V2,.cons (r1.mono V2.mono) r2⟩
theorem QV{s:Shared}{ρ:Nat->Addr}{m m':MH}{fr:av}{es:List Expr}{xs:List MV}{first:List Value}{K:Value->Shared->Prop}
  (ha:IY prog w g n sg es ca)(hp:Plain es)(hk:cE f)(hA:dj n A)(S:OK prog w g s ρ m)(F:dw sg env fr g s ρ m.n)(e:ca fr m=some (xs,m'))
  (k:∀vs s' ρ',OK prog w g s' ρ' m'->dh fk s ρ m s' ρ' m'->bI ρ' m'.n s'.heap xs vs->ay s' cX A (model prog w) K (call f (first++vs))):
  ay s cX A (model prog w) K (callWith pos f first (backTo pos (starEach es env)) []):=by
 refine lN (P:=fun h=>(KK w).In h) ?_ (fun h X=>hk prog w h X) ?_
 ·rw [hp.back pos env];simp
 ·have h1:=(ha A _ _ _ _ _ pos hA S F).step e (K:=fun vs s'=>(KK w).In s'.heap/\ay s' cX A (model prog w) K (call f (first++vs))) fun vs s' ρ' S' V' r=>⟨S'.now.X,k vs s' ρ' S' V' r⟩;rw [hp.back pos env] at h1 ⊢;cases es with
  |nil=>exact kf h1
  |cons x es=>exact jE h1
theorem GO{k:Nat}{id:Str}{p:Pos}{args:List Expr}{cf:List MV->MM MV}(qp:id∈sg.gs)(hv:bF id (.fn f))(hk:cE f)(ha:IY prog w g n sg args ca)(hp:Plain args)(hf:dW k f cf)(HP:k<=n):
  ph prog w g n sg (.Call (.Name id p) args [] pos) (oC ca cf):=by
 intro A env fr s ρ m hA S F;refine .bind fun xs m1 e1=> .of fun b m' e2=> ?_;refine iC ((bA (n:=n) (p:=p) qp hv _ _ A _ _ fr _ _ _ hA S F).step (m':=m) rfl fun a s1 ρ1 S1 V1 r1=> ?_);obtain rfl:=r1.rj rfl;refine QV ha hp hk hA S1 (F.dP V1) e1 fun vs s2 ρ2 S2 V2 r2=> ?_;exact(hf.less HP).call hA S2 r2 e2 fun v s3 ρ3 S3 V3 r3=>⟨ρ3,S3,(V1.comp V2).comp V3,r3⟩
end
section
variable {prog:Program}{w:World}{g:Heap}
noncomputable def w5(ow du:Addr)(kvs:List (Int×Value)):av->MM MV:=oC (AC (jf (ciD 11 du kvs) 1 [9,11] (SM.put 0) (Kc true) (ceD ow du kvs)) (Kc [])) (se JC)
theorem GP{ow du:Addr}{kvs:List (Int×Value)}{QT Nj:Nat}(ho:g.DictAt (intKind prog w) ow kvs QT)(hd:g.DictAt (intKind prog w) du kvs Nj)(sd:(du==sysModules)=false)
  {fr:av}{s:Shared}{ρ:Nat->Addr}{m:MH}(hA:dj 9 A)(S:OK prog w g s ρ m)(F:dw mP env fr g s ρ m.n){b:MV}{m':MH}(e:w5 ow du kvs fr m=some (b,m')):
  ay s cX A (model prog w) (fun f s'=>∃v,f= .ret v/\lu prog w g fk a_ s ρ m b m' v s') (exec (fc 12) env):=
 pU (au ((GO (n:=9) (.tail _ (.tail _ (.tail _ (.tail _ (.tail _ (.tail _ (.tail _ (.head _)))))))) De (aG rfl)
  (IZ (xc (own:= ["number"]) (cap:= ["own","due"]) (gs:= []) (idx:= [9,11]) (by decide +kernel) (IX (i:=11) rfl hd sd) (bB 0 rfl (fun ψ=>rfl)) c_ (Ln rfl rfl rfl ho hd) (fun ψ ψ=>rfl)) (fun ψ=>rfl)) (fun ψ=>rfl) DF (Nat.zero_le _) A _ _ _ _ _ hA S F).at e) (fun v s' h=>⟨v,rfl,h⟩) fun ψ ψ x=>x)
end
end
section
variable {es:List (Int×MV)}{kvs:List (Int×Value)}{env:Env}{s:Shared}{ρ:Nat->Addr}{m:MH}
section
variable {ρ:Nat->Addr}{n:Nat}{h:Heap}
theorem fh.det(r:fh ρ n h es kvs)(ho:∀p∈es,∃d,p.2= .obj d):kvs=es.map fun p=>(p.1,match p.2 with| .obj d=> .ref (ρ d)|_=> .none):=by
 induction r with
 |nil=>rfl
 |cons a _ ih=>
  obtain⟨d,hx⟩:=ho _ rr;dsimp only at hx;subst hx;cases a;rw [List.map_cons, <- ih fun p hp=>ho p (List.mem_cons_of_mem _ hp)]
theorem Lo{k:Int}{x:MV}(h:(k,x)∈es):∃y,lz k es=some y/\(k,y)∈es:=by
 induction es with
 |nil=>cases h
 |cons a r ih=>
  obtain⟨k',v⟩:=a;rw [uq]
  by_cases hk:k'=k
  ·subst hk;rw [if_pos rfl];exact⟨v,rfl,rr⟩
  ·rw [if_neg hk];rcases List.mem_cons.mp h with q|q
   ·cases q;exact absurd rfl hk
   ·refine az fun zG=> ?_;obtain⟨y,e,hm⟩:=ih q;refine zG ?_;exact⟨y,e,List.mem_cons_of_mem _ hm⟩
end
section
variable {prog:Program}{w:World}{g:Heap}
noncomputable def xH(env:Env):List Addr:=env.locals::env.cells.filterMap fun p=>env.cells.lookup p.1
theorem w6{a:Addr}:a∈xH env ↔ Own env a:=by
 delta xH Own;rw [List.mem_cons,List.mem_filterMap]
 constructor
 ·rintro(h|⟨p,_,h⟩)
  ·exact .inl h
  ·exact .inr ⟨_,h⟩
 ·rintro(h|⟨x,h⟩)
  ·exact .inl h
  ·exact .inr ⟨(x,a),lookup_mem h,h⟩
def RB(ρ:Nat->Addr)(fr ma:av):Prop:=∀i x,slot ma i=some x->∃j,slot fr i=some (.obj j)/\x= .fn (.ref (ρ j))
theorem J3(fr:av):RB ρ fr []:=fun ψ ψ e=>cj e
theorem jW{o:Option MV}{fr r:av}(h:RB ρ fr r):RB ρ (o::fr) (none::r):=fun i x e=>by
 cases i with
 |zero=>exact cj e
 |succ i=>exact h i x e
theorem GQ{j:Nat}{fr r:av}(h:RB ρ fr r):RB ρ (some (.obj j)::fr) (some (.fn (.ref (ρ j)))::r):=fun i x e=>by
 cases i with
 |zero=>exact⟨j,rfl,(dZ e).symm⟩
 |succ i=>exact h i x e
theorem rebase{fr:av}{sg:Sg}(S:OK prog w g s ρ m)(F:dw sg env fr g s ρ m.n)(ma:av)
  (hf:RB ρ fr ma):
  OK prog w (hideAll s.heap (xH env)) s ρ ⟨0,fun ψ=> .bad⟩/\dw sg env ma (hideAll s.heap (xH env)) s ρ 0:=by
 have ae5:∀a o,g.get? a=some o->(hideAll s.heap (xH env)).get? a=some o:=fun a o e=>hideAll_get _ (S.sub a o e) fun hm=>by
  rw [(F.own a (w6.mp hm)).1] at e;cases e
 have sr:∀i x (v:Option Value),slot ma i=some x->yY ρ m.n s.heap (slot fr i) v->yY ρ 0 s.heap (some x) v:=fun i x v e r=>by
  refine az fun zG=> ?_;obtain⟨j,e2,rfl⟩:=hf i x e;refine zG ?_;rw [e2] at r;refine az fun zG=> ?_;obtain⟨u,rfl,q⟩:=r;refine zG ?_;cases q;exact⟨_,rfl,.fn _⟩
 refine⟨⟨S.base.keeps ae5,fun a o e=>of_hideAll _ e,fun i j hi=>absurd hi (Nat.not_lt_zero _),fun i hi=>absurd hi (Nat.not_lt_zero _),fun i hi=>absurd hi (Nat.not_lt_zero _)⟩, ?_⟩;refine⟨F.ev, ?_,fun i x a b=> ?_,fun a ha=>⟨hideAll_none _ (w6.mpr ha),fun i hi=>absurd hi (Nat.not_lt_zero _),(F.own a ha).2.2⟩,F.ap⟩
 ·refine az fun zG=> ?_;obtain⟨mp,h1,h2⟩:=F.loc;refine zG ?_;refine⟨mp,h1,fun i x a b=> ?_⟩;cases q:slot ma i with
  |none=>trivial
  |some y=>exact sr i y _ q (h2 i x a b)
 ·refine az fun zG=> ?_;obtain⟨c,v,h1,h2,h3⟩:=F.y0 i x a b;refine zG ?_;refine⟨c,v,h1,h2, ?_⟩;cases q:slot ma i with
  |none=>trivial
  |some y=>exact sr i y _ q h3
theorem Ee(k:Nat):boolsOf (List.replicate k (.bool true))=some (List.replicate k true):=by
 induction k with
 |zero=>rfl
 |succ k ih=>rw [List.replicate_succ,List.replicate_succ];exact aV (f:=fun ns=>some (true::ns)) ih
theorem Ef{ow du:Addr}(hz:kvs.length<=1000)(hv:∀p∈kvs,∃a,valueAt kvs p.1=some (.ref a)):
  Ok (w5 ow du kvs [none,none,none,none,none,none,none,none,none,some (.fn (.ref ow)),none,some (.fn (.ref du))] m) fun v m'=>v= .bool true:=by
 unfold w5;lcg_off;refine Ok.comp kvs.length (GN kvs) (fun fr=>∃o,fr= [o,some (.fn (.ref ow)),some (.fn (.ref du))]) (fun k ys m1=>m1=m/\ys=List.replicate k (.bool true)) (by exact lk hz) ?_ ⟨_,rfl⟩ (fun ψ ψ ψ ψ ψ=>rfl) ?_ ?_
 ·refine Ok.of (a:=GN kvs) (m':=m) ?_ ⟨rfl,rfl,rfl⟩;show(if du=du then some (GN kvs,m) else none)=_;rw [if_pos rfl]
 ·intro k ys fr _ hk jI gP;refine az fun zG=> ?_;obtain⟨rfl,rfl⟩:=jI;obtain⟨o,rfl⟩:=gP;refine zG ?_;obtain⟨⟨key,val⟩,Oy⟩:∃kv,kvs[k]? =some kv:=⟨_,iP hk⟩;obtain⟨a,ha⟩:=hv _ (jB Oy);refine⟨.int key,by show Option.map _ (kvs[k]?)=_;rw [Oy];rfl, ?_⟩;lcg_off;refine Ok.of (a:= .bool true) (m':=_) ?_ ⟨⟨_,rfl⟩,rfl,by rw [List.replicate_succ']⟩;show(valueAt kvs key).bind _=_;rw [ha];exact if_pos ⟨rfl,rfl⟩
 set_option tactic.hygienic true in rintro ys _ ⟨rfl,rfl⟩
 set_option tactic.hygienic true in lcg_off
 rename_i mm;refine Ok.of (a:= .bool true) (m':=mm.new (.list (List.replicate kvs.length (.bool true)))) ?_ rfl;refine(cC (bc _ _)).trans ((aV (Ee _)).trans ?_)
 congr 3
 rw [List.all_eq_true];intro x hx;rw [List.eq_of_mem_replicate hx];rfl
theorem Lp{A:Around}{a0 a1 a2 a3 a4 a5 a6 a7 a8 a10:Option MV}{i j:Nat}(hA:dj 9 A)(S:OK prog w g s ρ m)
  (F:dw mP env [a0,a1,a2,a3,a4,a5,a6,a7,a8,some (.obj i),a10,some (.obj j)] g s ρ m.n)(hi:i<m.n)(hj:j<m.n)(oi:m.ob i= .dict es)(oj:m.ob j= .dict es)(Bz:∀p∈es,∃d,p.2= .obj d)(hz:es.length<=1000):
  ay s cX A (model prog w) (fun f s'=>f= .ret (.bool true)/\Sub s.heap s'.heap/\s'.os=s.os/\s'.gens=s.gens) (exec (fc 12) env):=by
 obtain⟨S2,F2⟩:=rebase S F _ (jW (jW (jW (jW (jW (jW (jW (jW (jW (GQ (jW (GQ (J3 [])))))))))))));refine az fun zG=> ?_;obtain⟨o1,h1,r1⟩:=S.ob i hi;refine zG ?_;refine az fun zG=> ?_;obtain⟨o2,h2,r2⟩:=S.ob j hj;refine zG ?_;rw [oi] at r1;rw [oj] at r2;refine az fun zG=> ?_;obtain⟨c1,_,kv1,d1,q1⟩:=r1;refine zG ?_;refine az fun zG=> ?_;obtain⟨c2,⟨_,sys⟩,Lq,d2,q2⟩:=r2;refine zG ?_;have e1:=q1.det Bz;have e2:=q2.det Bz;rw [<- e1] at e2;subst e2;have nf:∀ {k:Nat},k<m.n->ρ k∉xH env:=fun {k} hk hm=>(F.own _ (w6.mp hm)).2.1 k hk rfl;have D1:(hideAll s.heap (xH env)).DictOf (intKind prog w) (ρ i) Lq:=Heap.dictOf_iff.mpr ⟨o1,hideAll_get _ h1 (nf hi),d1⟩;have D2:(hideAll s.heap (xH env)).DictOf (intKind prog w) (ρ j) Lq:=Heap.dictOf_iff.mpr ⟨o2,hideAll_get _ h2 (nf hj),d2⟩;obtain⟨QT,D1⟩:=D1.dictAt;obtain⟨Nj,D2⟩:=D2.dictAt;have hlen:Lq.length=es.length:=by rw [e1,eW]
 have hv:∀p∈Lq,∃a,valueAt Lq p.1=some (.ref a):=fun p hp=>by
  rw [e1,List.mem_map] at hp;refine az fun zG=> ?_;obtain⟨q,hq,rfl⟩:=hp;refine zG ?_;refine az fun zG=> ?_;obtain⟨y,hy,hm⟩:=Lo (k:=q.1) (x:=q.2) hq;refine zG ?_;refine az fun zG=> ?_;obtain⟨v,hv,rv⟩:=q2.lookup hy;refine zG ?_;obtain⟨d,rfl⟩:=Bz _ hm;obtain⟨_,rfl⟩:=rv.ij rfl;exact⟨_,hv⟩
 refine az fun zG=> ?_;obtain⟨b,m',e,rfl⟩:=Ef (ow:=ρ i) (du:=ρ j) (kvs:=Lq) (m:=⟨0,fun ψ=> .bad⟩) (by exact ach hz hlen) hv;refine zG ?_;refine au (GP D1 D2 (beq_eq_false_iff_ne.mpr sys) hA S2 F2 e) (fun f s' hq=> ?_) fun ψ ψ x=>x;obtain⟨v,hf,ρ',S',V',r'⟩:=hq;obtain rfl:=r'.CP rfl;exact⟨hf,fun a o e=>V'.keep a o e (fun i hi=>absurd hi (Nat.not_lt_zero _)) (fun q=>q),V'.os,V'.gens⟩
end
end
section
open PySem.F
noncomputable abbrev I0:List Value:= [.ref 38,.type "Exception",.type "BaseException",.type "object"]
noncomputable abbrev GR:Obj:=excClassObj "Unopened" "Unopened" 75 74 [.ref 38] I0 true [] [] false none none (some (.ref 66)) none (some (.str "Unopened" 257)) (some (.str "Unopened" 265)) (some (.bool true)) "Exception.__new__"
theorem GS(w:World):(KK w).lookup 75=some GR:=by kernel_rfl
theorem OA(w:World):specialIn (KK w) (.ref 75) "__call__"=some (some (.builtin "type.__call__")):=by kernel_rfl
theorem OB(w:World):instIn (KK w) (.ref 75) (.type "type")=some true:=by kernel_rfl
theorem OC(w:World):subIn (KK w) (.ref 75) (.ref 75)=some true:=by kernel_rfl
theorem OD(w:World):findIn (KK w) (.ref 75) "__init__"=some (some (.ref 35)):=by kernel_rfl
theorem VF(w:World):typeIn (KK w) (.ref 35)=some (.type "function"):=by kernel_rfl
noncomputable abbrev pb(t:Addr):Obj:= {cls:= .ref 75,data:= .fields #[.ref t,.none,.none,.none,.bool false,.none]}
noncomputable abbrev ou(h:Heap)(rest:List Value):Heap:=(h.push {cls:= .type "tuple",data:= .seq rest.toArray}).push (pb h.objs.size)
section
variable {prog:Program}{w:World}{A:Around}{R:Result->Shared->Prop}{h:Heap}{g:Array GenState}{d:Drawn}{t:Nat}{os:OsState}
theorem ae6{rest:List Value}(hC:h.get? 75=some GR)(OE:rest.length<=sizeLine)(hq:R (.ok (.ret (.ref (h.objs.size+1)))) ⟨ou h rest,g,d,t,os⟩):
  codeAny (model prog w) A (.builtin "Exception.__new__" ⟨.ref 75::rest, []⟩) R ⟨h,g,d,t,os⟩:=by
 have aii:=excBase_Exception.ends;have VG:(Value.ref 75::I0).contains (.type "Exception")=true:=by decide
 have hcA:(Value.ref 75::I0).contains (.type "AttributeError")=false:=by decide
 have hcN:(Value.ref 75::I0).contains (.type "NameError")=false:=by decide
 refine codeAny_builtinAt excBase_Exception.entry ?_;refine PySem.wpAt_bind ?_;refine PySem.wpAt_bind (PySem.wpAt_stack fun p below=>PySem.wpAt_of_wpAny ?_)
 wp_walk
 refine PySem.wpAt_of_wpAny ?_;rw [excBase_Exception.owner]
 repeat (first|with_reducible refine wpAny_madeHere_exc excBase_Exception.canon hC ?_|with_reducible refine wpAny_loadPart_at hC ?_|(with_reducible refine wpAny_isSubtype_exc hC ?_;first|rw [VG]|rw [hcA]|rw [hcN])|wp_step)
 show R _ _;rw [Heap.size_push];exact hq
end
end
section
open PySem.F
variable {h:Heap}{rest:List Value}
section
variable {prog:Program}{w:World}{A:Around}{R:Result->Shared->Prop}{h:Heap}{g:Array GenState}{d:Drawn}{t:Nat}{os:OsState}
theorem sN{b:Addr}{o:Obj}(e:h.get? b=some o):(ou h rest).get? b=some o:=gS _ (gS _ e)
theorem AO:(ou h rest).get? (h.objs.size+1)=some (pb h.objs.size):=by heap_get
theorem VH(X:(KK w).In h)(OE:rest.length<=sizeLine)
  (hq:cQ (model prog w) (A.under (.builtin "type.__call__" ⟨.ref 75::rest, []⟩)) (.call (.ref 35) ⟨.ref (h.objs.size+1)::rest, []⟩) (InitBack (h.objs.size+1) R) ⟨ou h rest,g,d,t,os⟩):
  cQ (model prog w) A (.call (.ref 75) ⟨rest, []⟩) R ⟨h,g,d,t,os⟩:=by
 have hC:h.get? 75=some GR:=X _ _ (GS w);have call:Looks (model prog w) h (specialOf (.ref 75) "__call__") (some (.builtin "type.__call__")):=looks_specialIn X (OA w);have typ:Looks (model prog w) h (isInstance (.ref 75) (.type "type")) true:=looks_instIn X (OB w);refine dE rfl (aj ?_);show wpAny _ _ (callAny (.ref 75) _) _ _ _;refine nd_load hC ?_;show wpAny _ _ (callAny.viaDunder (.ref 75) _) _ _ _;refine aN (call.at ?_);dsimp only;rw [tc_bind];refine aN (cP (aN (cP ?_)));refine cP (a:=Fin.again (.call (.builtin "type.__call__") ⟨.ref 75::rest, []⟩)) (And.intro rfl ?_);refine ir rfl (Code.quiet_builtin _ (by decide +kernel)) entry_typeCall (aj (check_slot tc_kind tc_split typ (tc_args _ _ _) ?_));have hm:Looks (model prog w) h (mroOf (.ref 75)) (.ref 75::I0):=((Looks.ld (part:=none) hC).andThen .now).andThen .now;refine af (aj (hm.at ?_));refine af (aj (wpAny_madeBy_exc hC ?_));refine af (ax ?_);refine af (aK (aj (wpAny_call (codeAny_call_builtin_code (Code.quiet_builtin _ excBase_Exception.quiet) (wpAny_check_new_subU (bmB:=I0) excBase_Exception rfl .base hC (ae6 hC OE ?_))))));have X':(KK w).In (ou h rest):=X.keeps fun ψ ψ=>sN;have t1:Looks (model prog w) (ou h rest) (typeOf (.ref (h.objs.size+1))) (.ref 75):=(Looks.ld AO).andThen .now;have s1:Looks (model prog w) (ou h rest) (isSubtype (.ref 75) (.ref 75)) true:=looks_subIn X' (OC w);have i1:Looks (model prog w) (ou h rest) (typeLookup (.ref 75) "__init__") (some (.ref 35)):=looks_findIn X' (OD w);have b1:Looks (model prog w) (ou h rest) (bindSpecial (.ref 35) (.ref (h.objs.size+1))) (.ref 35, [.ref (h.objs.size+1)]):=bind_fn X' _ (VF w);have inst:Looks (model prog w) (ou h rest) (isInstance (.ref (h.objs.size+1)) (.ref 75)) true:=t1.andThen s1;have spec:Looks (model prog w) (ou h rest) (specialOf (.ref (h.objs.size+1)) "__init__") (some (.ref 35)):=t1.andThen i1;refine af (aj (inst.at ?_));refine af (aK (af (aj (spec.at ?_))));dsimp only;refine aK (af (aj (b1.at ?_)));refine af (iH (gB hq fun r s' z=> ?_));rcases r with e|(v|_|_|_) <;> first|exact z|exact z.elim|skip
 obtain⟨rfl,z⟩:=z;exact ax (ax z)
end
end
section
open PySem.F Builtin Builtin.ObjectAttr
variable {Q:Unit->Shared->Prop}
theorem VI(w:World):findIn (KK w) (.ref 75) "__setattr__"=some (some (.builtin "object.__setattr__")):=by kernel_rfl
theorem QW(w:World):findIn (KK w) (.ref 75) "why"=some none:=by kernel_rfl
theorem QX(w:World):subIn (KK w) (.ref 75) (.type "object")=some true:=by kernel_rfl
section
variable {prog:Program}{w:World}{A:Around}{E:Value->Shared->Prop}{h:Heap}{g:Array GenState}{d:Drawn}{t:Nat}{os:OsState}{x tt:Addr}{v:Value}
theorem I1{tk:Tok}{Q:Fin->Shared->Prop}(X:(KK w).In h)(hx:h.get? x=some (pb tt))
  (hq:∀h' Lr,h'.get? x=some {pb tt with dict:=some h.objs.size}->(∀b o,b≠x->h.get? b=some o->h'.get? b=some o)->Q (.done (.ret .none)) ⟨h',g,d,Lr,os⟩):
  wpAny (model prog w) A (Builtin.«object.__setattr__» ⟨[.ref x,.str "why" tk,v], []⟩) Q E ⟨h,g,d,t,os⟩:=by
 have hC:h.get? 75=some GR:=X _ _ (GS w);have hp:=store_Exception.passes (.ref x);have hl:Looks (model prog w) h (typeLookup (.ref 75) "why") none:=looks_findIn X (QW w);unfold Builtin.«object.__setattr__»
 repeat ((fail_if_success (with_reducible show wpAny _ _ (nsSet _ _ _) _ _ _));first|rw [refuse_eq]|(rw [refuseLoop_ref,refuseLoop_ref,hp])|with_reducible refine wpAny_loadPart_at hx ?_|with_reducible refine wpAny_mroOf_exc hC ?_|(with_reducible refine hl.here ?_)|wp_step)
 have VJ:(h.push {cls:= .type "dict",data:= .dict #[]}).get? x=some (pb tt):=gS _ hx;have iZ:x≠h.objs.size:=Nat.ne_of_lt (Heap.lt_size hx);have VB:((h.push {cls:= .type "dict",data:= .dict #[]}).update x fun o=> {cls:=o.cls,dict:=some h.objs.size,data:=o.data,slots:=o.slots}).Ns h.objs.size fun ψ=>none:=
  ⟨_, #[],_,(Heap.get?_update_ne _ _ _ _ iZ.symm).trans (Heap.get?_push_at rfl rfl),rfl,fun e he=>absurd he (by simp),fun ψ=>rfl⟩
 refine wpAny_nsSet1 (Heap.Ns1.of_empty VB) fun h' hn hs=> ?_;obtain⟨oD,es,ep,ho,hd,hz⟩:=hn.count (Within.cons "why" v Within.nil);refine aN (wpAny_lookBehind ho (by rw [hd];exact pastItsLine_dict (jb hz (by rw [oI,List.length_nil,sizeLine_eq];exact Xf))) ?_);refine cP (hq h' _ ((hs.2 x iZ).trans ?_) fun b o hb e=> ?_)
 ·exact Heap.get?_update_self _ VJ rfl
 ·exact(hs.2 b (Nat.ne_of_lt (Heap.lt_size e))).trans ((Heap.get?_update_ne _ _ _ _ hb).trans (gS _ e))
theorem QY{M:Model}{s:Shared}{self nm v:Value}(io:Looks M s.heap (isInstance self (.type "object")) true)(q:Q () s):wpAny M A (checkBuiltinCall "object.__setattr__" ⟨[self,nm,v], []⟩) Q E s:=by
 have ha:=store_Exception.args self nm v;have hk:=store_Exception.kind;have hs:=store_Exception.split
 revert ha hk hs
 generalize ("object.__setattr__":String)=i;intro ha hk hs;exact check_slot hk hs io ha q
theorem OG(X:(KK w).In h)(hx:h.get? x=some (pb tt))
  (hq:∀h' Lr,h'.get? x=some {pb tt with dict:=some h.objs.size}->(∀b o,b≠x->h.get? b=some o->h'.get? b=some o)->Q () ⟨h',g,d,Lr,os⟩):
  wpAny (model prog w) A (setAttr (.ref x) "why" v) Q E ⟨h,g,d,t,os⟩:=by
 have tx:Looks (model prog w) h (typeOf (.ref x)) (.ref 75):=(Looks.ld hx).andThen .now;have io:Looks (model prog w) h (isInstance (.ref x) (.type "object")) true:=tx.andThen (looks_subIn X (QX w));have I:InstAt h x (pb tt) 75 none:=⟨hx,rfl,rfl,trivial⟩;refine set_plain (s:=⟨h,g,d,t,os⟩) X I (VI w) ?_;exact codeAny_call_builtin store_Exception.slot.plain store_Exception.entry (QY io (I1 X hx fun h' Lr e k=>hq h' Lr e k))
end
end
section
open PySem.F
theorem QZ(w:World):subIn (KK w) (.ref 75) (.type "Exception")=some true:=by kernel_rfl
section
variable {prog:Program}{w:World}{A:Around}{E:Value->Shared->Prop}{h:Heap}{g:Array GenState}{d:Drawn}{t:Nat}{os:OsState}{x tt:Addr}{v:Value}
theorem OH{M:Model}{rest:List Value}{Q:Unit->Shared->Prop}(io:Looks M h (isInstance (.ref x) (.type "Exception")) true)(hC:h.get? 75=some GR)(hx:h.get? x=some (pb tt))(q:Q () ⟨h,g,d,t,os⟩):
  wpAny M A (checkBuiltinCall "Exception.__init__" ⟨.ref x::rest, []⟩) Q E ⟨h,g,d,t,os⟩:=by
 have hs:=excBase_Exception.noStar;refine aN (io.here ?_)
 repeat (first|with_reducible refine wpAny_loadPart_at hx ?_|with_reducible refine wpAny_loadPart_at hC ?_|wp_step)
 refine wpAny_onRaise ?_;have hc:∀(a b:String) (n:Nat),Bind.check ⟨.positional,"*","Exception",.self, [⟨"args",.varPos,false⟩]⟩ a b n (List.map (fun p=>p.fst) ({pos:=Value.ref x::rest}:Args).kw)=pure ():=fun a b n=>check_star_args _ _ _ _ _ _;rw [hc];exact cP q
theorem Ls{Q:Value->Shared->Prop}(X:(KK w).In h)(hx:h.get? x=some (pb tt))
  (hq:∀h',h'.get? x=some (pb h.objs.size)->h'.get? h.objs.size=some {cls:= .type "tuple",data:= .seq #[v]}->(∀b o,b≠x->h.get? b=some o->h'.get? b=some o)->Q .none ⟨h',g,d,t,os⟩):
  wpAny (model prog w) A (call (.builtin "Exception.__init__") [.ref x,v]) Q E ⟨h,g,d,t,os⟩:=by
 have tx:Looks (model prog w) h (typeOf (.ref x)) (.ref 75):=(Looks.ld hx).andThen .now;have io:Looks (model prog w) h (isInstance (.ref x) (.type "Exception")) true:=tx.andThen (looks_subIn X (QZ w));refine wpAny_call (codeAny_call_builtin excBase_Exception.init.plain excBase_Exception.initEntry (OH io (X _ _ (GS w)) hx ?_))
 wp_walk
 have VJ:(h.push {cls:= .type "tuple",data:= .seq #[v]}).get? x=some (pb tt):=gS _ hx;have iZ:x≠h.objs.size:=Nat.ne_of_lt (Heap.lt_size hx);refine hq _ (Heap.get?_update_self _ VJ rfl) ((Heap.get?_update_other _ _ iZ).trans (Heap.get?_push_at rfl rfl)) fun b o hb e=>(Heap.get?_update_other _ _ hb.symm).trans (gS _ e)
end
end
section
open PySem.F
variable {s:Shared}
theorem OK.Tf{prog:Program}{w:World}{ρ:Nat->Addr}(b:Base w s.heap):OK prog w s.heap s ρ ⟨0,fun ψ=> .bad⟩:=
 ⟨b,fun ψ ψ e=>e,fun i j hi=>absurd hi (Nat.not_lt_zero _),fun i hi=>absurd hi (Nat.not_lt_zero _),fun i hi=>absurd hi (Nat.not_lt_zero _)⟩
section
variable {prog:Program}{w:World}{A:Around}{R:Result->Shared->Prop}{h:Heap}{g:Array GenState}{d:Drawn}{t:Nat}{os:OsState}{x tt:Addr}{v:Value}
theorem BC:bF "Exception" (.fn (.type "Exception")):=fun w=>⟨.type "Exception",.inr ⟨by kernel_rfl,by kernel_rfl,by decide⟩,fun ψ ψ ψ=> .fn _⟩
theorem Cp{sg:Sg}{env:Env}{E:Value->Shared->Prop}{Q:Value->Shared->Prop}{mp:Str->Option Value}{y:Str}{p:Pos}{u:Value}(ev:yZ sg env)(hl:sg.nm.lookup y=some .local)(hn:s.heap.Ns env.locals mp)(e:mp y=some u)(hd:(y==("__debug__":Str))=false)(q:Q u s):
  ay s E A (model prog w) Q (eval (.Name y p) env):=
 aj (wpAny_Name (wpAny_loadName_local ev.kind (by unfold Env.kindOf;rw [ev.nm];exact hl) hn e q) hd)
theorem Q0(hA:dj 1 A)(b:Base w h)(hx:h.get? x=some (pb tt))(hnk:(KK w).lookup x=none)
  (hq:∀s' t' dd,s'.heap.get? x=some {pb t' with dict:=some dd}->(∀b o,b≠x->h.get? b=some o->s'.heap.get? b=some o)->s'.gens=g->s'.os=os->R (.ok (.ret .none)) s'):
  cQ (model prog w) A (.call (.ref 35) ⟨[.ref x,v], []⟩) R ⟨h,g,d,t,os⟩:=by
 have S:OK prog w h ⟨h,g,d,t,os⟩ (fun ψ=>0) ⟨0,fun ψ=> .bad⟩:=OK.Tf (s:=⟨h,g,d,t,os⟩) b;refine uF (n:=0) (ps:= ["self","why"]) (rest:= []) (gs:= ["Exception"]) (ys:= [.fn (.ref x),.fn v]) (us:= [.ref x,v]) (b.X _ _ (rfl:(KK w).lookup 35=some ⟨_,_,.func _,_⟩)) rfl rfl (codeRec_of b.X rfl) rfl rfl rfl (aF (ps:= ["self","why"]) rfl (iE fun ψ ψ=>rfl) w ⟨h,g,d,t,os⟩ [.ref x,v] b.X (dT _) (dT _)) (by decide +kernel) rfl hA S (.cons (.fn _) (.cons (.fn _) .nil)) fun s1 S1 V1 k1 F1 hn=> ?_;refine yO fun Q1 E1 hQ ψ=> ?_;obtain⟨mp,n1,r1⟩:=F1.loc;have m0:mp "self"=some (.ref x):=by
  obtain⟨u,e,r⟩:=r1 0 "self" rfl rfl;exact r.rj rfl▸e
 have m1:mp "why"=some v:=by
  obtain⟨u,e,r⟩:=r1 1 "why" rfl rfl;exact r.rj rfl▸e
 refine fa (cL (BF (mv ((bA (n:=0) (x:="Exception") (.head _) BC prog w _ h _ _ s1 _ _ (dj.deeper hA) S1 F1).step (m':=⟨0,fun ψ=> .bad⟩) rfl fun a s2 ρ2 S2 V2 r2=> ?_) rfl) ?_ ?_))
 ·obtain rfl:=r2.rj rfl;have F2:=F1.dP V2;obtain⟨mp2,n2,_⟩:=F2.loc;have k2:∀b o,h.get? b=some o->s2.heap.get? b=some o:=S2.sub;refine aj (method_type (v:= .builtin "Exception.__init__") (K:=KK w) (h₀:=h) (m:=mp2) ⟨n2,k2,dT _⟩ b.X (by kernel_rfl) (by kernel_rfl) (by kernel_rfl) (by kernel_rfl) ?_);have S2t:OK prog w h {s2 with toks:=s2.toks+1} ρ2 ⟨0,fun ψ=> .bad⟩:=⟨S2.base,S2.sub,S2.inj,S2.out,S2.ob⟩;have F2t:dw _ _ _ h {s2 with toks:=s2.toks+1} ρ2 0:=⟨F2.ev,F2.loc,F2.y0,F2.own,F2.ap⟩;refine wd (n:=0) (first:= []) (xs:= [.fn (.ref x),.fn v]) (m':=⟨0,fun ψ=> .bad⟩) (m:=⟨0,fun ψ=> .bad⟩) (eS (dI 0 rfl) (eS (dI 1 rfl) ab (fun ψ=>rfl)) (fun ψ=>rfl)) (fun ψ=>rfl) (aG rfl) (dj.deeper hA) S2t F2t rfl fun vs s3 ρ3 S3 V3 r3=> ?_;obtain⟨u1,u2,rfl,a1,a2⟩:=r3.two;obtain rfl:=(a1.rj rfl).symm;obtain rfl:=(a2.rj rfl).symm;have F3:=F2t.dP V3;obtain⟨mp3,n3,q3⟩:=F3.loc;have w0:mp3 "self"=some (.ref x):=by
   obtain⟨u,e,r⟩:=q3 0 "self" rfl rfl;exact r.rj rfl▸e
  have w1:mp3 "why"=some v:=by
   obtain⟨u,e,r⟩:=q3 1 "why" rfl rfl;exact r.rj rfl▸e
  have g3:s3.gens=g:=V3.gens.trans (V2.gens.trans V1.gens);have o3:s3.os=os:=V3.os.trans (V2.os.trans V1.os);have k3:∀b o,h.get? b=some o->s3.heap.get? b=some o:=S3.sub;obtain⟨h3,gg3,d3,t3,os3⟩:=s3;have hL:h.get? h.objs.size=none:=cA _;have hLx:h.objs.size≠x:=fun q=>by rw [q,hx] at hL;cases hL
  refine aj (Ls (b.X.keeps k3) (k3 _ _ hx) fun h4 y1 y2 y3=> ?_);have n4:=Hs n3 fun o e=>y3 _ o hLx e;have k4:∀b o,b≠x->h.get? b=some o->h4.get? b=some o:=fun b o hb e=>y3 b o hb (k3 b o e);have X4:(KK w).In h4:=fun a o e=>by
   by_cases hax:a=x
   ·rw [hax,hnk] at e;cases e
   ·exact k4 a o hax (b.X a o e)
  refine cL (lp (Cp F3.ev rfl n4 w1 rfl (Cp F3.ev rfl n4 w0 rfl (aj (OG X4 y1 fun h' Lr z1 z2=> ?_)))) rfl);exact aj (wpAny_execs_nil (hQ _ _ (hq _ _ _ z1 (fun b o hb e=>z2 b o hb (k4 b o hb e)) g3 o3)))
 ·unfold interactive;rw [F1.ev.kind];rfl
 ·exact ku rfl
end
end
section
open PySem.F
noncomputable abbrev J4(t dd:Addr):Obj:= {cls:= .ref 75,dict:=some dd,data:= .fields #[.ref t,.none,.none,.none,.bool false,.none]}
section
variable {M:Model}{A:Around}{E:Value->Shared->Prop}{s:Shared}{env:Env}
theorem Lu{x:Sem Value}{Q:Flow->Shared->Prop}(hh:A.handled=none)
  (h:ay s E A M (fun v s₁=>∃e t dd,v= .ref e/\s₁.heap.get? 75=some GR/\s₁.heap.get? e=some (J4 t dd)/\E (.ref e) s₁) x):ay s E A M Q (raiseStmt env (some x) none):=by
 have VG:(Value.ref 75::I0).contains (.type "BaseException")=true:=by decide
 refine af (au h (fun v s₁ h₁=>aj ?_) fun ψ ψ x=>x);obtain⟨e,t,dd,rfl,hC,he,hE⟩:=h₁;obtain⟨hp,g,d,tk,os⟩:=s₁
 repeat (first|with_reducible refine wpAny_loadPart_at he ?_|with_reducible refine wpAny_loadPart_at hC ?_|(with_reducible refine wpAny_isSubtype_exc hC ?_;rw [VG])|wp_step)
 exact wpAny_raiseNew_none hh hE
end
end
section
open PySem.F
theorem GU(w:World):nsIn (KK w) mainGlobals "Unopened"=some (some (.ref 75)):=by kernel_rfl
section
variable {prog:Program}{w:World}{A:Around}{s:Shared}{env:Env}{B:Heap}{outer:List Env}{L e le:Addr}{a0:Value}{Q:Flow->Shared->Prop}
theorem Lv{np p1 p2 p3 p4 pos:Pos}(hu:A.units+40<cLine)(GV:A.frames=some (env::outer))(hf:env.frame=some L)(ev:yZ mP env)(hB:Base w B)(fl:Heap.FlyingW B (env::outer) e (.ref 75) a0 s.heap)
  {ca:Addr}(hca:env.cells.lookup ("editions":Str)=some ca)(hce:B.IsCell ca (some (.ref le))){ep:Nat}(hle:B.get? le=some (fO [] ep))
  (hq:∀s' b,b= .bool true->(∀a o,B.get? a=some o->s'.heap.get? a=some o)->s'.os=s.os->s'.gens=s.gens->Q (.ret b) s'):
  wpAny (model prog w) A (noteFrame (.ref e) env) (fun ψ s₂=>wpAny (model prog w) A (setFlight (.ref e) none) (fun ψ s₃=>
   wpAny (model prog w) A (handleBy (.ref e) env [.ExceptHandler (some (.Name "Unopened" np)) none [.Return (some (.Compare (.Name "editions" p1) [.Eq] [.List [] p2] p3)) p4] pos]) Q cX s₃) cX s₂) cX s:=by
 have kU:env.kindOf "Unopened"=some .globalImplicit:=by unfold Env.kindOf;rw [ev.nm];rfl
 have kE:env.kindOf "editions"=some .cell:=by unfold Env.kindOf;rw [ev.nm];rfl
 refine wpAny_looks_onW GV hf fl fun h1 x1 y1=> ?_;refine wpAny_landsW x1 fun h2 x2 y2=> ?_;have k2:∀a o,B.get? a=some o->h2.get? a=some o:=x2.1;obtain⟨oe,he,Qr⟩:=x2.there;have B2:Base w h2:=hB.keeps k2;have hC:h2.get? 75=some GR:=B2.X _ _ (GS w);refine wpAny_handleBy_cons (codeAny_handlers_test ?_) (by intro q;cases q);obtain⟨mg,mb,G,Bu,_⟩:=B2.top;refine Name_function_global ev.kind kU (loadGlobal_global (ev.PB▸G) (mg_of B2.X G (GU w)) ?_) rfl;refine wpAny_excMatches_sub_self hC he Qr rfl (codeAny_handlers_suite ?_);refine lands_againW x2 fun h3 x3 y3=> ?_;have k3:∀a o,B.get? a=some o->h3.get? a=some o:=x3.1;refine wpAny_execs_cons (wpAny_Return_some (wpAny_Compare1 (wpAny_Name (wpAny_loadName_cell ev.kind kE hca (uY hce (k3 _)) ?_) (bR rfl)) rfl));refine wpAny_List ?_;refine cP ⟨by rw [sizeLine_eq];decide, ?_⟩;have i1:(h3.push (fO [] 0)).get? le=some (fO [] ep):=gS _ (k3 _ _ hle);have i2:(h3.push (fO [] 0)).get? h3.objs.size=some (fO [] 0):=Heap.get?_push_at rfl rfl;refine SeqAt.compareEq_reads (da:= .list []) (db:= .list []) (.list i1 rfl rfl .nil) (.list i2 rfl rfl .nil) rfl rfl (by show A.units+_<_;simp [PyData.depth,PyData.depthAll];exact ZL hu) ?_;exact hq _ _ rfl (fun a o e=>gS _ (k3 a o e)) rfl rfl
end
end
section
open PySem.F
noncomputable def I5: {fd:FuncData //∃oc od v_,∀w,(KK w).lookup 535=some ⟨oc,od,.func fd,v_⟩}:=⟨_,_,_,_,fun w=>rfl⟩
noncomputable def Q2: {b:List Stmt //I5.1.body= .stmts b}:=⟨_,rfl⟩
noncomputable def Cq(k:Nat):Stmt:=Q2.1.getD k (.Pass default)
noncomputable abbrev ae_:List Str:= ["disks","shape","rows","disk","octets","newest","config","own","guid","other"]
noncomputable abbrev Tg:List Str:= ["read_config","number_of","GUID","config_of","max","all_disks","Unopened"]
noncomputable def Lw:Sg:=⟨ae_,Tg,I5.1.scope.names⟩
noncomputable def Eg: {c //fX 7 Lw (Cq 0) c}:=⟨_,(bh 2 rfl (cO ab) rfl)⟩
noncomputable def Eh: {c //fX 7 Lw (Cq 1) c}:=⟨_,(dK (aY (dI 0 rfl)) (bB 3 rfl (fun h=>nomatch h)) (ai (bh 4 rfl (qu (.head _) mw mx (eS (dI 3 rfl) (eS (dI 1 rfl) ab (fun ψ=>rfl)) (fun ψ=>rfl)) (fun ψ=>rfl) gx.2.fn (bR rfl)) rfl) (ar (bM (aD (dI 4 rfl) d9 nE rfl) (ar (wH (ar (bp (ez (dI 2 rfl) (eS (b6 (eS (qu (.tail _ (.head _)) jO jP (eS (eA (dI 4 rfl) fL (b8 (bA (.tail _ (.tail _ (.head _))) rU))) ab (fun ψ=>rfl)) (fun ψ=>rfl) gN.2.fn (bR rfl)) (eS (qu (.tail _ (.tail _ (.tail _ (.head _)))) pq pv (eS (eA (dI 4 rfl) (b8 (bA (.tail _ (.tail _ (.head _))) rU)) fL) ab (fun ψ=>rfl)) (fun ψ=>rfl) jT.2.fn (bR rfl)) (eS (dI 3 rfl) ab (fun ψ=>rfl)) (fun ψ=>rfl)) (fun ψ=>rfl))) ab (fun ψ=>rfl)) (fun ψ=>rfl) (gj F.slot_list_append F.type_list_append) uv (fun ψ=>⟨_,rfl⟩)) rfl)))) bu))) (fun ψ ψ=>rfl))⟩
end
section
open PySem.F
section
variable {m:MH}{sh od:Nat}{L:LD}{Cs:Nat->d_}
set_option maxHeartbeats 1000000 in
theorem OI(hs:c9 m sh)(ho:m.ob od= .list (L.map fun p=> .obj p.1))(GC:od<m.n)(hL:∀p∈L,mO Cs m p.1 p.2)(hl:L.length<=100)(hR:∀k,k<3->uD (Cs k)):
  bL (SM.seq Eg.1 Eh.1 [some (.obj od),some (.obj sh),none,none,none,none,none,none,none,none] m) fun f fr m1=>f= .next/\∃z1 z2,fr= [some (.obj od),some (.obj sh),some (.obj m.n),z1,z2,none,none,none,none,none]/\Ev m m1/\m.n<m1.n/\∃ys,m1.ob m.n= .list ys/\F2 (lM Cs (m.n+1) m1) ys (ck L):=by
 refine bL.cps fun Q hq=> ?_;dsimp only [Eg,Eh];lcg_off;have x0:=Ext.new m (.list []);refine bL.forL od (L.map fun p=> .obj p.1) (fun k fr m1=>(∃z1 z2,fr= [some (.obj od),some (.obj sh),some (.obj m.n),z1,z2,none,none,none,none,none])/\Ev m m1/\m.n<m1.n/\∃ys,m1.ob m.n= .list ys/\F2 (lM Cs (m.n+1) m1) ys (ck (L.take k))) ?_ ?_ ?_ ?_
 ·lcg_off;exact⟨rfl,⟨_,_,rfl⟩,.of x0,gA _,_,bc _ _,.nil⟩
 ·intro k fr m1 mL;refine az fun zG=> ?_;obtain⟨_,x1,_⟩:=mL;refine zG ?_;exact x1.list ho GC
 ·intro k v fr m1 e jI J hj;refine az fun zG=> ?_;obtain⟨⟨z1,z2,rfl⟩,x1,mM,ys,o1,F1⟩:=jI;refine zG ?_;rw [i_,nK] at e;refine az fun zG=> ?_;obtain⟨⟨d,tl⟩,hp,rfl⟩:=e;refine zG ?_;have hD:=(hL _ (jB hp)).keep x1;have hk:k<L.length:=by
   rcases Nat.lt_or_ge k L.length with h|h
   ·exact h
   ·rw [List.getElem?_eq_none h] at hp;cases hp
  have ke:ys.length<=100:=by
   rw [F1.len];have:=oq (L.take k);rw [ie] at this;exact RJ hl hk this
  lcg_off;refine(sL (hs.yH x1) hD).q1 ?_;intro m2 x2;have o2:=x2.list o1 mM;have oG:m.n<m2.n:=eD mM x2.n;have vL:=F1.mono fun ψ ψ a=>a.keep x2.nk
  match tl,hp,hD with
  |none,hp,hD=>
   unfold AB;lcg_off;refine⟨⟨_,_,rfl⟩,x1.trans x2,oG,ys,o2, ?_⟩;rw [gI hp,List.append_nil];exact vL
  |some (g,j),hp,hD=>
   obtain⟨hg,Vw⟩:=hD.2 g j rfl;have hC:=hR j Vw;have fY:=qc hC.toConfOK;have e1:c8 (bO 4 g++gm (Cs j)) none (some 4)=bO 4 g:=(uo _ 4).trans (List.take_left' (aw _ _));have e2:c8 (bO 4 g++gm (Cs j)) (some 4) none=gm (Cs j):=(zI _ 4).trans (List.drop_left' (aw _ _));have hn:numOf (bO 4 g)=g:=fy (by exact To hg) (by exact Tp hg);unfold AB;lcg_off;refine Ok.of (a:=false) rfl ?_;lcg_off;refine Ok.su rfl rfl (by rw [ip,aw];exact Hc fY) ?_;rw [e1];lcg_off;refine Ok.ex (iF (by rw [aw];exact O4) (by rw [hn];exact Tq hg) _) fun m3 x3=> ?_;rw [hn];lcg_off;refine Ok.su rfl rfl (by rw [ip,aw];exact Hc fY) ?_;rw [e2];lcg_off;refine(pN hC).k2 ?_;intro v m4 I4 x4;have Br:=x3.trans x4;have o4:=(Br.ob _ oG).trans o2;have wM:m.n<m4.n:=eD oG Br.n;lcg_off;refine Ok.app o4 ⟨by exact lk ke,wM⟩ ?_;lcg_off;refine⟨⟨_,_,rfl⟩,(x1.trans (x2.trans (.of Br))).oY (dT _),wM,_,fK _ _ _, ?_⟩;rw [gI hp];exact(vL.mono fun ψ ψ a=>(a.keep (.of Br)).pQ (gA _)).snoc ⟨v,rfl,(I4.up (.refl _) (by have:=x3.n;exact RK oG this)).pQ (gA _)⟩
 ·intro fr m1 fM;refine az fun zG=> ?_;obtain⟨⟨z1,z2,rfl⟩,x1,mM,ys,o1,F1⟩:=fM;refine zG ?_;rw [eW,g_] at F1;lcg_off;exact⟨z1,z2,rfl,x1,mM,ys,o1,F1⟩
end
end
section
open PySem.F
theorem Q3{n:Nat}{sg:Sg}{prog:Program}{w:World}{g:Heap}{A:Around}{s:Shared}{ρ:Nat->Addr}{m m':MH}{env:Env}{fr:av}{es:List Expr}{ca:av->MM (List MV)}{xs:List MV}{f:Value}{first:List Value}{pos:Pos}{K:Value->Shared->Prop}{E:Value->Shared->Prop}
  (ha:nN n sg es ca)(hp:Plain es)(hk:cE f)(hA:dj n A)(S:OK prog w g s ρ m)(F:dw sg env fr g s ρ m.n)(e:ca fr m=some (xs,m'))
  (k:∀vs s' ρ',OK prog w g s' ρ' m'->dh fk s ρ m s' ρ' m'->bI ρ' m'.n s'.heap xs vs->ay s' E A (model prog w) K (call f (first++vs))):
  ay s E A (model prog w) K (callWith pos f first (backTo pos (starEach es env)) []):=by
 refine lN (P:=fun h=>(KK w).In h) ?_ (fun h X=>hk prog w h X) ?_
 ·rw [hp.back pos env];simp
 ·have h1:=fa (E:=E) ((ha _ _ A _ _ _ _ _ _ pos hA S F).step e (K:=fun vs s'=>(KK w).In s'.heap/\ay s' E A (model prog w) K (call f (first++vs))) fun vs s' ρ' S' V' r=>⟨S'.now.X,k vs s' ρ' S' V' r⟩);rw [hp.back pos env] at h1 ⊢;cases es with
  |nil=>exact kf h1
  |cons x es=>exact jE h1
theorem Q4(w:World){B h:Heap}(b:Base w B){x:Addr}(hx:B.get? x=none):(KK w).lookup x=none:=by
 cases q:(KK w).lookup x with
 |none=>rfl
 |some o=>rw [b.X x o q] at hx;cases hx
section
variable {prog:Program}{w:World}{g:Heap}{A:Around}{s:Shared}{ρ:Nat->Addr}{m:MH}{env:Env}{fr:av}{sg:Sg}
theorem OJ{R:Value->Shared->Prop}{v:Value}(hA:dj 2 A)(b:Base w s.heap)
  (hq:∀s' e t' dd,s.heap.get? e=none->s'.heap.get? e=some (J4 t' dd)->(∀b o,s.heap.get? b=some o->s'.heap.get? b=some o)->s'.gens=s.gens->s'.os=s.os->R (.ref e) s'):
  ay s cX A (model prog w) R (call (.ref 75) [v]):=by
 obtain⟨h,gg,d,t,os⟩:=s;refine iH (VH b.X (by rw [sizeLine_eq];show 1<=_;decide) ?_);refine Q0 (tt:=h.objs.size) ⟨by have:=hA.1;show A.depth+1+_<_;exact Xd this,by have:=hA.2.1;show A.units+1+_<_;exact Xe this,hA.2.2⟩ (b.keeps fun ψ ψ=>sN) AO (Q4 w b (B:=h) (h:=h) (Heap.get?_none_of_le (Nat.le_succ _))) fun s' t' dd a1 a2 a3 a4=> ?_;refine⟨rfl,hq s' _ t' dd (Heap.get?_none_of_le (Nat.le_succ _)) a1 (fun c o e=>a2 c o (fun q=> ?_) (sN e)) a3 a4⟩;rw [q,Heap.get?_none_of_le (Nat.le_succ _)] at e;exact cj e
end
end
section
open PySem.F
theorem VK:bF "Unopened" (.fn (.ref 75)):=fun w=>⟨.ref 75,.inl (GU w),fun ψ ψ ψ=> .fn _⟩
section
variable {prog:Program}{w:World}{g:Heap}{A:Around}{s:Shared}{ρ:Nat->Addr}{m:MH}{env:Env}{fr:av}{sg:Sg}
theorem Lx{np kp J5 pos:Pos}{k:Nat}{E:Value->Shared->Prop}{Q:Flow->Shared->Prop}(hA:dj 3 A)(S:OK prog w g s ρ m)(F:dw Lw env fr g s ρ m.n)
  (hE:∀s' e t' dd,s.heap.get? e=none->s'.heap.get? e=some (J4 t' dd)->(∀b o,s.heap.get? b=some o->s'.heap.get? b=some o)->s'.gens=s.gens->s'.os=s.os->E (.ref e) s'):
  ay s E A (model prog w) Q (exec (.Raise (some (.Call (.Name "Unopened" np) [.Constant (.str "no labels") k kp] [] J5)) none pos) env):=by
 obtain⟨S,F⟩:=rebase S F [] (J3 _);rw [arm_exec_Raise];refine af (bx (Lu hA.2.2 ?_));refine af (au (Q:=fun v s₁=>∃e t dd,v= .ref e/\s₁.heap.get? 75=some GR/\s₁.heap.get? e=some (J4 t dd)/\E (.ref e) s₁) (E:=cX) ?_ (fun v s1 q=>af (bx (ax q))) fun ψ ψ x=>x.elim);refine iC ((bA (n:=3) (sg:=Lw) (.tail _ (.tail _ (.tail _ (.tail _ (.tail _ (.tail _ (.head _))))))) VK prog w A _ env [] s ρ ⟨0,fun ψ=> .bad⟩ hA S F).step (m':=⟨0,fun ψ=> .bad⟩) rfl fun a s1 ρ1 S1 V1 r1=> ?_);obtain rfl:=r1.rj rfl;refine wd (n:=3) (sg:=Lw) (first:= []) (eS cH ab (fun ψ=>rfl)) (fun ψ=>rfl) C7 hA S1 (F.dP V1) (m':=⟨0,fun ψ=> .bad⟩) (xs:= [.str "no labels"]) rfl fun vs s2 ρ2 S2 V2 r2=> ?_;obtain⟨u1,rfl,r3⟩:=r2.one;obtain⟨_,rfl⟩:=r3.w9 rfl;have V:=V1.comp V2;have kk:∀b o,s.heap.get? b=some o->s2.heap.get? b=some o:=fun b o e=>V.keep b o e (fun i hi=>absurd hi (Nat.not_lt_zero _)) (fun q=>q);refine OJ (hA.less (bR rfl)) S2.now fun s' e t' dd a1 a2 a3 a4 a5=>⟨e,t',dd,rfl,a3 _ _ (S2.now.X _ _ (GS w)),a2,hE s' e t' dd (V.old a1) a2 (fun b o q=>a3 b o (kk b o q)) (a4.trans V.gens) (a5.trans V.os)⟩
end
end
section
open PySem.F
theorem Ly{c d:SM}{fr:av}{m:MH}{r:av×MH}(e:SM.seq c d fr m=some (.next,r)):∃el m1,c fr m=some (.next,el,m1)/\d el m1=some (.next,r):=by
 delta SM.seq at e;cases h:c fr m with
 |none=>rw [h] at e;exact cj e
 |some x=>
  obtain⟨f,el,m1⟩:=x;rw [h] at e;cases f with
  |next=>exact⟨el,m1,rfl,e⟩
  |_=>cases e
theorem GW{h:Heap}{a:Addr}{mp:Str->Option Value}(n:h.Ns a mp):∃o,h.get? a=some o/\∀vs,o.data≠ .fields vs:=by
 obtain⟨o,es,ep,e,d,_⟩:=n;exact⟨o,e,fun vs q=>by rw [d] at q;cases q⟩
section
variable {prog:Program}{w:World}{g:Heap}{A:Around}{s:Shared}{ρ:Nat->Addr}{m:MH}{env:Env}{fr:av}{od sh:Nat}{L:LD}{Cs:Nat->d_}
theorem Lz{R:Result->Shared->Prop}(hA:dj 8 A)(S:OK prog w g s ρ m)(F:dw mP env fr g s ρ m.n)(GV:A.frames=some [env])(hf:env.frame=some env.locals)
  (hs:c9 m sh)(hsh:sh<m.n)(ho:m.ob od= .list (L.map fun p=> .obj p.1))(GC:od<m.n)(hL:∀p∈L,mO Cs m p.1 p.2)(hl:L.length<=100)(hR:∀k,k<3->uD (Cs k))(h0:ck L= [])
  (hq:∀s3 ρ3 m3 LF e a0 s',OK prog w g s3 ρ3 m3->dw mP env fr g s3 ρ3 m3.n->Ev m m3->(∀i,i<m3.n->ρ3 i≠LF)->¬Own env LF->g.get? LF=none->(∀i,i<m.n->ρ3 i=ρ i)->
   Heap.FlyingW (hideAll s3.heap [LF,env.locals]) [env] e (.ref 75) a0 s'.heap->s'.os=s.os->s'.gens=s.gens->R (.error (.ref e)) s'):
  cQ (model prog w) A (.call (.ref 535) ⟨[.ref (ρ od),.ref (ρ sh)], []⟩) R s:=by
 obtain⟨oc,odd,v_,PE⟩:=I5.2;refine uF (n:=7) (ps:= ["disks","shape"]) (rest:= ["rows","disk","octets","newest","config","own","guid","other"]) (gs:=Tg) (ys:= [.obj od,.obj sh]) (us:= [.ref (ρ od),.ref (ρ sh)]) (S.now.X _ _ (PE w)) rfl Q2.2 (codeRec_of S.now.X rfl) rfl rfl rfl
  (aF (ps:= ["disks","shape"]) rfl (iE fun ψ ψ=>rfl) w s [.ref (ρ od),.ref (ρ sh)] S.now.X (dT _) (dT _)) (by decide +kernel) rfl hA S (.cons (.obj GC) (.cons (.obj hsh) .nil)) fun s1 S1 V1 k1 F1 hn=> ?_
 have OL:dj 7 (A.deeper (callEnvC I5.1 s.heap.objs.size 535)):=dj.deeper hA;have VL:(callEnvC I5.1 s.heap.objs.size 535).frame=some (callEnvC I5.1 s.heap.objs.size 535).locals:=rfl;generalize callEnvC I5.1 s.heap.objs.size 535=xI at F1 hn OL VL ⊢;refine yO fun Q1 E1 ψ hE=> ?_;obtain⟨f2,ma,m2,e2,rfl,z1,z2,rfl,x2,oG,ys,o2,FF⟩:=OI hs ho GC hL hl hR;rw [h0] at FF;cases FF;obtain⟨el,m1,e1,e2⟩:=Ly e2;have hb:Q2.1=Cq 0::Cq 1::Cq 2::Q2.1.drop 3:=rfl;have h2:∃t np kp J5 pos b q,Cq 2= .If t [.Raise (some (.Call (.Name "Unopened" np) [.Constant (.str "no labels") 0 kp] [] J5)) none pos] b q/\qQ 7 Lw t fun fr=>MM.bind (rd fr 2) fun a=>MM.bind (MM.bind (MM.ret []) Me) fun b=>vr a b:=
  ⟨_,_,_,_,_,_,_,rfl,aD (dI 2 rfl) (cO ab) eT rfl⟩
 obtain⟨tt,np,kp,J5,pos,bb,qq,h2,hT⟩:=h2;rw [hb,h2];refine cL (fa (au ((Eg.2 prog w _ g xI _ s1 ρ m OL S1 F1).at e1) (fun fl s2 q=> ?_) fun ψ ψ x=>x));obtain⟨ρ2,S2,V2,r2,F2⟩:=q;obtain rfl:=r2.Mj;refine cL (fa (au ((Eh.2 prog w _ g xI _ s2 ρ2 m1 OL S2 F2).at e2) (fun fl s3 q=> ?_) fun ψ ψ x=>x));obtain⟨ρ3,S3,V3,r3,F3⟩:=q;obtain rfl:=r3.Mj;refine cL (CI (fa ((hT prog w _ g xI _ s3 ρ3 m2 OL S3 F3).step (b:=true) (m':=m2.new (.list [])) ?_ fun c s4 ρ4 S4 V4 r4=> ?_)))
 ·have q1:(m2.new (.list [])).ob m.n= .list []:=((Ext.new m2 (.list [])).ob _ oG).trans o2;have q2:(m2.new (.list [])).ob m2.n= .list []:=bc _ _;refine(MM.eH (rfl:rd _ 2 m2=some (.obj m.n,m2))).trans ?_;refine(MM.eH (a:= .obj m2.n) (m1:=m2.new (.list [])) rfl).trans ?_;refine aV ((cC q1).trans ((cC q2).trans ((if_pos rfl).trans ?_)));rw [show pC (m2.new (.list [])) m.n=some (.list []) from(cC q1).trans rfl,show pC (m2.new (.list [])) m2.n=some (.list []) from(cC q2).trans rfl]
  rfl
 subst r4;rw [if_pos rfl];have F4:=F3.dP V4;have V:=V1.trans ((V2.comp V3).comp V4.weak) fun x o e q=>by rw [hn x q] at e;cases e
 have F5:=F.dP V;refine cL (Lx (OL.less (bR rfl)) S4 F4 fun s5 e t' dd a1 a2 a3 a4 a5=> ?_);obtain⟨mpF,nF,_⟩:=F4.loc;obtain⟨mpL,nL,_⟩:=F5.loc;obtain⟨oF,eF,dF⟩:=GW nF;obtain⟨oL,eL,dL⟩:=GW nL;have hLF:s.heap.get? xI.locals=none:=hn _ (.inl rfl);have hen:(hideAll s4.heap [xI.locals,env.locals]).get? e=none:=by
  cases q:(hideAll s4.heap [xI.locals,env.locals]).get? e with
  |none=>rfl
  |some o=>have:=of_hideAll _ q;rw [a1] at this;cases this
 refine hE _ _ ?_;refine aj (wpAny_leaving_firstW (base:=hideAll s4.heap [xI.locals,env.locals]) (Around.frames_deeper GV) ?_ VL a2 ?_ ?_ rfl rfl rfl fun h' hL=> ?_)
 ·exact⟨by rw [F4.ev.kind];decide,⟨_,oF,VL,hideAll_none _ (.head _),a3 _ _ eF,dF⟩,by rw [F5.ev.kind];decide,⟨_,oL,hf,hideAll_none _ (.tail _ (.head _)),a3 _ _ eL,dL⟩,trivial⟩
 ·exact fun b o q=>a3 b o (of_hideAll _ q)
 ·exact hen
 ·obtain⟨j1,⟨_,_,j2⟩,j3,j4⟩:=hL;refine hq s4 ρ4 _ xI.locals e _ _ S4 F5 (x2.trans (.of (Ext.new m2 (.list [])))) (fun i hi=>(F4.own _ (.inl rfl)).2.1 i hi) (fun q=> ?_) (F4.own _ (.inl rfl)).1 (fun i hi=>V.ix i hi) ⟨j1, ?_,j2,j3⟩ (a5.trans V.os) (a4.trans V.gens)
  ·obtain⟨o,eo⟩:=(F.own _ q).2.2;rw [hLF] at eo;cases eo
  ·exact hen
end
end
section
open PySem.F
set_option backward.match.sparseCases false
noncomputable def yJ:List Expr:= [.ListComp (.Name "disk" ⟨375,35,375,39⟩) [⟨.Tuple [.Name "disk" ⟨375,44,375,48⟩,.Name "told" ⟨375,50,375,54⟩] 0 ⟨375,44,375,54⟩,.Name "rows" ⟨375,58,375,62⟩, [],0⟩] ⟨.function, [(".0",.local),("disk",.local),("told",.local)],false,false, []⟩ ⟨375,34,375,63⟩,.Name "shape" ⟨375,65,375,70⟩]
noncomputable def w7: {ca //nN 9 mP yJ ca}:=⟨_,eS (cZ (own:= ["disk","told"]) (cap:= []) (gs:= []) (idx:= []) (by decide +kernel) (aY (dI 4 rfl)) (fq (.cons (i:=0) rfl (fun ψ=>rfl) (.cons (i:=1) rfl (fun ψ=>rfl) .nil))) c_ (dI 0 rfl) (fun ψ ψ=>rfl)) (eS (dI 1 rfl) ab (fun ψ=>rfl)) (fun ψ=>rfl)⟩
theorem VM:∃es kk tp pf cp ap np p1 p2 p3 p4 hp pos,fc 6= .Try [.Assign [.Tuple es kk tp] (.Call (.Name "found_disks" pf) yJ [] cp) ap] [.ExceptHandler (some (.Name "Unopened" np)) none [.Return (some (.Compare (.Name "editions" p1) [.Eq] [.List [] p2] p3)) p4] hp] [] [] pos/\
  Plain yJ/\∀env:Env,swappedStores [.Tuple es kk tp] (.Call (.Name "found_disks" pf) yJ [] cp) (BZ mP env)=pure none:=
 ⟨_,_,_,_,_,_,_,_,_,_,_,_,_,rfl,fun ψ=>rfl,fun ψ=>by kernel_rfl!⟩
theorem uG{M:Model}{A:Around}{s:Shared}{env:Env}{mQ:List Expr}{k:Nat}{vw:Pos}{value:Expr}{pos:Pos}{Q:Flow->Shared->Prop}{E:Value->Shared->Prop}
  (h:ay s E A M (fun v s₁=>ay s₁ E A M (fun ψ=>Q .next) (assign (.Tuple mQ k vw) env v)) (eval value env))
  (hs:swapsWithSole [.Tuple mQ k vw] value pos.line env=pure false)(hw:swappedStores [.Tuple mQ k vw] value env=pure none):
  ay s E A M Q (exec (.Assign [.Tuple mQ k vw] value pos) env):=by
 rw [exec_Assign];refine af (bx ?_);rw [hs];refine af (ax ?_);rw [if_neg (bR rfl)];refine af (au h (fun v s₁ h₁=> ?_) fun ψ ψ x=>x);rw [hw];refine af (ax ?_);exact af (au h₁ (fun ψ ψ x=>ax x) fun ψ ψ x=>x)
section
variable {prog:Program}{w:World}{g:Heap}{A:Around}{s:Shared}{ρ:Nat->Addr}{m:MH}{env:Env}{sh cs mo ro eo:Nat}{L:LD}{Cs:Nat->d_}{mk:Nat->Nat}{a0 z5 z6 z7:Option MV}
theorem LA(h:LS Cs mk m sh cs mo ro L):
  Ok (w7.1 [a0,some (.obj sh),some (.obj cs),some (.obj mo),some (.obj ro),z5,z6,z7,none,none,none,none] m) fun vs m'=>vs= [.obj m.n,.obj sh]/\m'=m.new (.list (L.map fun p=> .obj p.1)):=by
 dsimp only [w7]
 set_option tactic.hygienic true in lcg_off
 refine Ok.kj ro (L.map jK) (fun fr=>∃z1 z2,fr= [z1,z2]) (fun k zs m1=>m1=m/\zs=(L.take k).map fun p=> .obj p.1) (by have:=h.len;rw [eW];exact LV this) ?_ ⟨_,_,rfl⟩ ?_ ?_ ?_
 ·lcg_off;exact⟨rfl,rfl,rfl⟩
 ·rintro k zs _ ⟨rfl,_⟩;exact h.ro.1
 ·intro k v zs fr _ e gP lK U hj;refine az fun zG=> ?_;obtain⟨rfl,rfl⟩:=gP;obtain⟨z1,z2,rfl⟩:=lK;refine zG ?_;rw [i_,nK] at e;refine az fun zG=> ?_;obtain⟨⟨d,tl⟩,hp,rfl⟩:=e;refine zG ?_;unfold jK;lcg_off;exact⟨⟨_,_,rfl⟩,rfl,by rw [cW hp,ja];rfl⟩
 set_option tactic.hygienic true in rintro zs _ ⟨rfl,rfl⟩
 rename_i m;rw [eW,g_];lcg_off;exact⟨rfl,rfl⟩
theorem GX(hA:dj 9 A)(S:OK prog w g s ρ m)(F:dw mP env [a0,some (.obj sh),some (.obj cs),some (.obj mo),some (.obj ro),z5,z6,some (.obj eo),none,none,none,none] g s ρ m.n)(GV:A.frames=some [env])(hf:env.frame=some env.locals)
  (h:LS Cs mk m sh cs mo ro L)(hC:xF Cs mk)(he:m.ob eo= .list [])(DJ:eo<m.n)(h0:ck L= []):
  ay s cX A (model prog w) (fun fl s'=>fl= .ret (.bool true)/\(∀a o,g.get? a=some o->s'.heap.get? a=some o)/\s'.os=s.os/\s'.gens=s.gens) (exec (fc 6) env):=by
 refine az fun zG=> ?_;obtain⟨es,kk,tp,pf,cp,ap,np,p1,p2,p3,p4,hp,pos,h6,hpl,UO⟩:=VM;refine zG ?_;rw [h6];refine qZ ?_;refine cL ?_;refine yO fun Q1 E1 ψ hE=> ?_;refine uG ?_ (zX rfl) ((sf F.ev _ _).trans (UO env));refine iC ?_;refine fa ?_;refine(bA (n:=9) (sg:=mP) (.tail _ (.tail _ (.tail _ (.tail _ (.tail _ (.head _)))))) qT prog w A g env _ s ρ m hA S F).step (m':=m) rfl fun a s1 ρ1 S1 V1 r1=> ?_;obtain rfl:=r1.rj rfl;have F1:=F.dP V1;refine az fun zG=> ?_;obtain⟨vs,m2,e2,rfl,rfl⟩:=LA (a0:=a0) (z5:=z5) (z6:=z6) (z7:=some (.obj eo)) h;refine zG ?_;refine Q3 (n:=9) (first:= []) w7.2 hpl qU hA S1 F1 e2 fun us s2 ρ2 S2 V2 r2=> ?_;obtain⟨u1,u2,rfl,r3,r4⟩:=r2.two;obtain⟨_,rfl⟩:=r3.ij rfl;obtain⟨_,rfl⟩:=r4.ij rfl;have x1:=Ext.new m (.list (L.map fun p=> .obj p.1));have h1:=h.keep (.of x1);have F2:=F1.dP V2;refine iH (Lz (hA.less (bR rfl)) S2 F2 GV hf h1.sh (by assumption) (bc _ _) (gA _) h1.dk (by have:=h.len;exact Q9 this) hC.r h0 fun s3 ρ3 m3 LF e a0' s' S3 F3 x3 q1 q2 q3 q4 fl o1 o2=> ?_);have V:=V1.comp V2;have hx3:m3.ob eo= .list []:=x3.list ((x1.ob _ DJ).trans he) (eD DJ x1.n);have wR:eo<m3.n:=eD (eD DJ x1.n) x3.n;refine az fun zG=> ?_;obtain⟨us,ep,hl,rl⟩:=S3.lst wR hx3;refine zG ?_;cases rl;refine az fun zG=> ?_;obtain⟨ca,cv,c1,c2,c3⟩:=F3.y0 7 "editions" rfl rfl;refine zG ?_;refine az fun zG=> ?_;obtain⟨v',rfl,c3⟩:=c3;refine zG ?_;cases c3;refine az fun zG=> ?_;obtain⟨mpL,nL,_⟩:=F3.loc;refine zG ?_;have fY:ca≠env.locals:=fun q=>by
  refine az fun zG=> ?_;obtain⟨o,es,ep,n1,n2,_⟩:=nL;refine zG ?_;refine az fun zG=> ?_;obtain⟨o',k1,k2⟩:=c2;refine zG ?_;rw [q,n1] at k1;cases k1;rw [n2] at k2;cases k2
 have hB:∀a o,s3.heap.get? a=some o->a≠LF->a≠env.locals->(hideAll s3.heap [LF,env.locals]).get? a=some o:=fun a o e n1 n2=>hideAll_get _ e fun hm=>by
  rcases List.mem_cons.mp hm with q|hm
  ·exact n1 q
  ·rcases List.mem_cons.mp hm with q|hm
   ·exact n2 q
   ·cases hm
 have hgB:∀a o,g.get? a=some o->(hideAll s3.heap [LF,env.locals]).get? a=some o:=fun a o e=>hB a o (S3.sub a o e) (fun q=>by rw [q,q3] at e;cases e) fun q=>by
  rw [q,(F3.own _ (.inl rfl)).1] at e;cases e
 refine hE _ _ ?_;have key:=Lv (np:=np) (p1:=p1) (p2:=p2) (p3:=p3) (p4:=p4) (pos:=hp) (Q:=fun fl s'=>fl= .ret (.bool true)/\(∀a o,g.get? a=some o->s'.heap.get? a=some o)/\s'.os=s.os/\s'.gens=s.gens) (prog:=prog)
  (by have:=hA.2.1;exact W2 this) GV hf F3.ev (S3.base.keeps hgB) fl c1 (uY c2 fun o e=>hB _ o e (fun q=>q2 (.inr ⟨_,q▸c1⟩)) fY) (hB _ _ hl (q1 _ wR) fun q=>(F3.own _ (.inl rfl)).2.1 _ wR q)
  fun kK b hb k o3 o4=>⟨by rw [hb],fun a o e=>k a o (hgB a o e),o3.trans (o1.trans V.os),o4.trans (o2.trans V.gens)⟩
 exact aj (wpAny_mono key (fun ψ s2 h2=>aj (wpAny_mono h2 (fun ψ s3 h3=>aj h3) fun ψ ψ x=>x)) fun ψ ψ x=>x)
end
end
section
open PySem.F
section
variable {prog:Program}{w:World}{g:Heap}{A:Around}{s:Shared}{ρ:Nat->Addr}{m:MH}{env:Env}{fr:av}
theorem GY{Cs:Nat->d_}{G:Int}{D:List Int}(R:List (Nat×Int×Nat)):∀acc:List (Int×MV),(∀p∈acc,∃d,p.2= .obj d)->∀p∈R.foldl (eO Cs G D) acc,∃d,p.2= .obj d:=by
 induction R with
 |nil=>exact fun acc h=>h
 |cons r R ih=>
  intro acc h;refine ih _ fun p hp=> ?_;unfold eO at hp
  split at hp
  ·rcases List.mem_append.mp hp with q|q
   ·exact h p q
   ·rw [List.mem_singleton.mp q];exact⟨_,rfl⟩
  ·exact h p hp
theorem iG{st:Stmt}{rest:List Stmt}{c:SM}{K:Flow->Shared->Prop}{Q:eG->av->MH->Prop}(h:Ed prog w g 9 mP st c)(hA:dj 9 A)(S:OK prog w g s ρ m)(F:dw mP env fr g s ρ m.n)(hO:bL (c fr m) fun f fD m'=>f= .next/\Q f fD m')
  (k:∀s' ρ' fD m',OK prog w g s' ρ' m'->dw mP env fD g s' ρ' m'.n->s'.os=s.os->s'.gens=s.gens->Q .next fD m'->ay s' cX A (model prog w) K (execs rest env)):
  ay s cX A (model prog w) K (execs (st::rest) env):=by
 refine az fun zG=> ?_;obtain⟨f,fD,m',e,rfl,q⟩:=hO;refine zG ?_;refine cL (au ((h A env fr s ρ m hA S F).at e) (fun fl s' z=> ?_) fun ψ ψ x=>x);refine az fun zG=> ?_;obtain⟨ρ',S',V,r,F'⟩:=z;refine zG ?_;obtain rfl:=r.Mj;exact k s' ρ' fD m' S' F' V.os V.gens q
theorem LB{l:Addr}{vs:List Value}{ep:Nat}{xs:List Int}(hA:dj 9 A)(S:OK prog w g s ρ ⟨0,fun ψ=> .bad⟩)(F:dw mP env [some (.fn (.ref l)),none,none,none,none,none,none,none,none,none,none,none] g s ρ 0)
  (GV:A.frames=some [env])(hf:env.frame=some env.locals)(hg:g.get? l=some (fO vs ep))(hv:∀ρ n h,bI ρ n h (xs.map .int) vs)(hz:xs.length<=100000):
  ay s cX A (model prog w) (fun fl s'=>fl= .ret (.bool true)/\(∀a o,g.get? a=some o->s'.heap.get? a=some o)/\s'.os=s.os/\s'.gens=s.gens) (execs J0.1 env):=by
 have hb:J0.1= [fc 0,fc 1,fc 2,fc 3,fc 4,fc 5,fc 6,fc 7,fc 8,fc 9,fc 10,fc 11,fc 12]:=rfl;rw [hb];refine iG (Q:=fun ψ fD m'=>fD= [some (.obj 0),none,none,none,none,none,none,none,none,none,none,none]/\m'.ob 0= .list ((xs.take 63).map .int)/\0<m'.n) (ae1 hg hv (by rw [eW];exact hz)) hA S F ?_ fun s1 ρ1 el m1 S1 F1 o1 g1 q1=> ?_
 ·refine⟨.next,_,_, ?_,rfl,rfl,bc ⟨0,fun ψ=> .bad⟩ (.list ((xs.take 63).map .int)),gA _⟩;have hc:c8 (xs.map MV.int) none (some 63)=(xs.take 63).map .int:=(uo _ 63).trans (List.map_take ..).symm;refine(SM.DO (v:= .obj 0) (m1:=(⟨0,fun ψ=> .bad⟩:MH).new (.list ((xs.take 63).map .int))) ?_).trans rfl;show(if l=l then some (MV.obj 0,(⟨0,fun ψ=> .bad⟩:MH).new (.list (c8 (xs.map MV.int) none (some 63)))) else none)=_;rw [if_pos rfl,hc]
 refine az fun zG=> ?_;obtain⟨rfl,a1,a2⟩:=q1;refine zG ?_;have hz:(xs.take 63).length<=63:=by rw [ie];exact ace
 refine iG (AF.2.toG) hA S1 F1 (Oi a1 a2 hz) fun s2 ρ2 ma m2 S2 F2 o2 g2 q2=> ?_;refine az fun zG=> ?_;obtain⟨sh,cs,rfl,LE2,x2⟩:=q2;refine zG ?_;refine iG (AG.2.toG) hA S2 F2 (Oj LE2 hz) fun s3 ρ3 fr3 m3 S3 F3 o3 g3 q3=> ?_;refine az fun zG=> ?_;obtain⟨mo,rfl,mo3,mn3,x3⟩:=q3;refine zG ?_;generalize E3:J1 (eJ (xs.take 63) 0) (eJ (xs.take 63) 1) (eJ (xs.take 63) 2)=Cs at *;generalize hmk:Eb (eJ (xs.take 63) 0) (eJ (xs.take 63) 1) (eJ (xs.take 63) 2)=mk at *;have hC:xF Cs mk:=by rw [<- E3, <- hmk];exact aeP _ _ _
 have LE3:=LE2.keep (.of x3);refine iG (GD.2.toG) hA S3 F3 (Ol LE3 hz hC) fun s4 ρ4 fr4 m4 S4 F4 o4 g4 q4=> ?_;refine az fun zG=> ?_;obtain⟨ro,L,rfl,ro4,rn4,dk4,t6,x4⟩:=q4;refine zG ?_;have LE4:=LE3.keep (.of x4);have h4:LS Cs mk m4 sh cs mo ro L:=⟨LE4.sh,LE4.cs,⟨(x4.ob _ mn3).trans mo3,eD mn3 x4.n⟩,⟨ro4,rn4⟩,dk4,t6⟩;refine iG (AH.2.toG) hA S4 F4 (Om h4 hC) fun s5 ρ5 Mr m5 S5 F5 o5 g5 q5=> ?_;refine az fun zG=> ?_;obtain⟨⟨z5,z6,rfl⟩,x5⟩:=q5;refine zG ?_;have h5:=h4.keep x5;refine iG (GF.2.toG) hA S5 F5 (Oo h5) fun s6 ρ6 Uh m6 S6 F6 o6 g6 q6=> ?_;refine az fun zG=> ?_;obtain⟨eo,rfl,eo6,VN,x6⟩:=q6;refine zG ?_;have h6:=h5.keep (.of x6);have oo:s6.os=s.os:=o6.trans (o5.trans (o4.trans (o3.trans (o2.trans o1))));have gg:s6.gens=s.gens:=g6.trans (g5.trans (g4.trans (g3.trans (g2.trans g1))))
 by_cases h0:ck L= []
 ·refine cL (au (GX hA S6 F6 GV hf h6 hC (by rw [eo6,h0];rfl) VN h0) (fun fl s' z=> ?_) fun ψ ψ x=>x);refine az fun zG=> ?_;obtain⟨rfl,z1,z2,z3⟩:=z;refine zG ?_;exact⟨rfl,z1,z2.trans oo,z3.trans gg⟩
 refine az fun zG=> ?_;obtain⟨r0,rt,hr,ot⟩:=Oh (Cs:=Cs) h0;refine zG ?_;refine iG (AI.2.toG) hA S6 F6 (Oq h6 hC hr ot) fun s7 ρ7 fr7 m7 S7 F7 o7 g7 q7=> ?_;refine az fun zG=> ?_;obtain⟨cv,ow,rfl,cv7,VO,od7,x7⟩:=q7;refine zG ?_;have h7:=h6.keep x7;have eo7:=x7.list eo6 VN;have en7:=eD VN x7.n;refine iG (AJ.2.toG) hA S7 F7 (Ot (fr:= []) eo7 en7 h0) fun s8 ρ8 fr8 m8 S8 F8 o8 g8 q8=> ?_;obtain⟨rfl,x8⟩:=q8;have h8:=h7.keep (.of x8);refine iG (GG.2.toG) hA S8 F8 (Ou h8 ((x8.ob _ en7).trans eo7) hr ot) fun s9 ρ9 fr9 m9 S9 F9 o9 g9 q9=> ?_;obtain⟨rfl,x9⟩:=q9;have h9:=h8.keep (.of x9);refine iG (AK.2.toG) hA S9 F9 Ov fun s10 ρ10 ajB m10 S10 F10 o10 g10 q10=> ?_;obtain⟨rfl,rfl⟩:=q10;have x10:=Ext.new m9 (.dict []);have hr3:r0.2.2<3:=(Cj (fun p hp=>(dk4 p hp).2) r0 ot).2;refine iG (wX.2.toG) hA S10 F10 (Lj h9 hC (.of x10) (dT _) (gA _) (bc _ _) hr3) fun s11 ρ11 ajC VP S11 F11 o11 g11 q11=> ?_;refine az fun zG=> ?_;obtain⟨⟨y5,y6,rfl⟩,Ti,x11,OM,afn,afo⟩:=q11;refine zG ?_;have h11:=h9.keep x11;have Bz:=sM (Cs:=Cs) (G:=(Cs r0.2.2).gR) (D:=eU (Cs r0.2.2)) (ck L) [];have hrl:=oq L;rw [List.length_nil] at Bz;have hob:=GY (Cs:=Cs) (G:=(Cs r0.2.2).gR) (D:=eU (Cs r0.2.2)) (ck L) [] (fun p hp=>by cases hp);have Q5:ow<m9.n:=eD (eD VO x8.n) x9.n;have od9:m9.ob ow=_:=(x9.ob _ (eD VO x8.n)).trans ((x8.ob _ VO).trans od7);have Tj:VP.ob ow=_:=(afn ow (Nat.lt_succ_of_lt Q5) (Nat.ne_of_lt Q5)).trans ((x10.ob _ Q5).trans od9);have ON:ow<VP.n:=eD (Nat.lt_succ_of_lt Q5) afo;have afq:eY VP cv (Cs r0.2.2):=((cv7.keep (Ev.of x8).nk).keep (Ev.of x9).nk).keep x11.nk;refine iG (wY.2.toG) hA S11 F11 (Ll h11 hC hr3 afq OM Ti ON Tj (by exact acf t6 Bz hrl)) fun s12 ρ12 ajD m12 S12 F12 o12 g12 q12=> ?_;obtain⟨rfl,GK⟩:=q12;refine cL (au (Lp hA S12 F12 (eD ON GK.n) (eD OM GK.n) ((GK.ob _ ON).trans Tj) ((GK.ob _ OM).trans Ti) hob (by exact acg t6 Bz hrl)) (fun fl s' z=> ?_) fun ψ ψ x=>x);refine az fun zG=> ?_;obtain⟨rfl,z1,z2,z3⟩:=z;refine zG ?_;exact⟨rfl,fun a o e=>z1 a o (S12.sub a o e),z2.trans (o12.trans (o11.trans (o10.trans (o9.trans (o8.trans (o7.trans oo)))))),z3.trans (g12.trans (g11.trans (g10.trans (g9.trans (g8.trans (g7.trans gg))))))⟩
end
end
section
open PySem.F
theorem VQ{prog:Program}{w:World}{s:Shared}{l:Addr}{vs:List Value}{ep:Nat}{xs:List Int}(b:Base w s.heap)(hl:s.heap.get? l=some (fO vs ep))(hv:∀ρ n h,bI ρ n h (xs.map .int) vs)(hz:xs.length<=100000):
  cQ (model prog w) callerA (.call (.ref 580) ⟨[.ref l], []⟩) (fun r s'=>r= .ok (.ret (.bool true))/\(∀a o,s.heap.get? a=some o->s'.heap.get? a=some o)/\s'.os=s.os/\s'.gens=s.gens) s:=by
 have S:OK prog w s.heap s (fun ψ=>0) ⟨0,fun ψ=> .bad⟩:=OK.Tf b;obtain⟨oc,odd,v_,PE⟩:=IU.2;have hA:dj 10 callerA:=⟨by decide,by decide,rfl⟩;refine uF (n:=9) (ps:= ["script"]) (rest:= ["shape","configs","made_of","rows","disk","told","editions","config","own","newest","due"]) (gs:= ["Shape","_law_configs","_law_cell","len","_law_told","found_disks","sorted","all"]) (ys:= [.fn (.ref l)]) (us:= [.ref l]) (b.X _ _ (PE w)) rfl J0.2 (codeRec_of b.X rfl) rfl rfl rfl
  (aF (ps:= ["script"]) rfl (gE fun ψ=>rfl) w s [.ref l] b.X (dT _) (dT _)) (by decide +kernel) rfl hA S (.cons (.fn _) .nil) fun s1 S1 V1 k1 F1 hn=> ?_
 refine fa (au (LB (dj.deeper hA) S1 F1 rfl rfl hl hv hz) (fun fl s' z=> ?_) fun ψ ψ x=>x);obtain⟨rfl,z1,z2,z3⟩:=z;exact⟨rfl,z1,z2.trans V1.os,z3.trans V1.gens⟩
end
section
open PySem.F
theorem LC(w:World):nsIn (KK w) mainGlobals "law"=some (some (.ref 580)):=by kernel_rfl
section
variable {R:WRecords}{P:Params}{h:Heap}
theorem ints_of{xs:List WData}(h:WShape.hasItems R xs .int=true):∃ns:List Int,xs=ns.map .int:=by
 induction xs with
 |nil=>exact⟨[],rfl⟩
 |cons d r ih=>
  simp only [WShape.hasItems,Bool.and_eq_true] at h;obtain⟨i,rfl⟩:=hasW_int h.1;obtain⟨ns,rfl⟩:=ih h.2;exact⟨i::ns,rfl⟩
theorem I6{vs:List Value}:∀ {ns:List Int},WellAll P h vs (ns.map .int)->∀ρ n h',bI ρ n h' (ns.map .int) vs:=by
 induction vs with
 |nil=>intro ns w ρ n h';cases ns with
  |nil=>exact .nil
  |cons=>cases w
 |cons v vs ih=>intro ns w ρ n h';cases ns with
  |nil=>cases w
  |cons i ns=>cases w with
   |cons a b=>cases a;exact .cons (.int _ _) (ih b ρ n h')
end
theorem Q6{R:WRecords}{ns:List Int}(h:WTm.holds R (.and (.not (.lt (.lit (.int 63)) (.len (.arg 0)))) (.lit (.bool true))) {args:= [.list (ns.map .int)]}=true):ns.length<=63:=by
 rcases Nat.lt_or_ge 63 ns.length with q|q
 ·have q':(63:Int)<ns.length:=by exact YA q
  simp [WTm.holds,WTm.value,W.less?,Num.less?,q'] at h
 ·exact q
theorem some_get{α:Type}{o:Option α}(h:o.isSome=true):o=some (o.get h):=by cases o;cases h;rfl
theorem LG:CD yN uO (XL yN [(Str.ofString "NUMBERS",WData.int 4294967296)]) vY.says Challenge.rw_pb0586_01.row.toRowW ((defOf yN Challenge.rw_pb0586_01.row.name).get (by kernel_rfl)).1 ((defOf yN Challenge.rw_pb0586_01.row.name).get (by kernel_rfl)).2:=by
 intro w s₀ s₁ mg mb G Y a o pm cd doc dV kV h1 h2 h3 h4 h5 rD args vals as yQ EG hrd VR ajE;have X:(KK w).In s₁.heap:=kIn_of Y;have b:Base w s₁.heap:=⟨X,⟨mg,mb,G.T.g,G.T.b,G.T.builtins⟩,G.T.nolimit⟩;have ha:a=580:=by
  have e1:=mg_of X G.T.g (LC w);have e2:mg "law"=some (.ref a):=h5;rw [e1] at e2;cases e2;rfl
 subst ha;obtain⟨d,r,rfl,hd1,CV⟩:=hasAllW_cons (pre_splitW yQ).1;obtain rfl:=hasAllW_nil CV;obtain⟨xs,rfl,hx⟩:=hasW_list hd1;obtain⟨ns,rfl⟩:=ints_of hx;cases VR with|cons q1 q2=>
 cases q2;cases q1 with|list hl hw=>
 have hz:ns.length<=63:=by
  have:=(pre_splitW yQ).2;exact Q6 this
 refine gB (VQ b hl (I6 hw) (by exact lk hz)) fun r s' z=> ?_;obtain⟨rfl,z1,z2,z3⟩:=z;refine⟨.inl ⟨.bool true,.bool true, [],rfl,fun ψ=>rfl,.bool _, ?_,fun ψ=>⟨.nil,fun a ha=>by cases ha⟩⟩,OldK.of_keep z1,z2,AllBare.of_eq (z3.trans rD)⟩;show WTm.holds _ (.eq .res (.lit (.bool true))) _=true;simp [WTm.holds,WTm.value,W.same]
end
end Mine
section
open PySem PySem.F PySem.W PyProof.Rows PySem.Calls PySem.Spec
theorem PySem.Challenge.cw_pb0586_01_holds : PySem.Challenge.rw_pb0586_01.Holds :=
 
 Mine.hdL (Mine.some_get (by kernel_rfl)) (by rfl) (by rfl) Mine.LG
end
