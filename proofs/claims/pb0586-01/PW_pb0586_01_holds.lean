import PyProof.Rows.All
import Wide.All
import OpenK.AllK
import Wide.FinOn
import PyProof.IsiH_list
import Lean
import PySem.Challenge.RW_pb0586_01
set_option maxRecDepth 1000000
set_option Elab.async false
set_option linter.all false
set_option bootstrap.genMatcherCode false
set_option compiler.extract_closed false
set_option genSizeOfSpec false
set_option tactic.hygienic false
namespace Mine
section
set_option backward.match.sparseCases false
theorem az{P:Prop}(h:¬P->False):P:=Classical.byContradiction h
inductive A where
 |v (i:Nat)|n (k:Nat)|a (x y:A)|s (x y:A)|m (k:Nat) (x:A)|r (x:A) (k:Nat)|c (x:A)
 |le (x y:A)|lt (x y:A)|eq (x y:A)|Le (x y:A)|Lt (x y:A)|Eq (x y:A)|no (x:A)|d (x y:A)
namespace A
noncomputable section
noncomputable def G_{α:Type}(z:α):List α->Nat->α
 | []=>fun O=>z
 |x::l=>fun i=>Nat.rec x (fun i O=>G_ z l i) i
section
variable(xs:List Nat)(zs:List Int)
noncomputable def N:A->Nat
 | .v i=>G_ 0 xs i
 | .n k=>k
 | .a x y=>x.N+y.N
 | .m k x=>k*x.N
 | .r x k=>x.N*k
 |_=>0
noncomputable def I:A->Int
 | .v i=>G_ 0 zs i
 | .n k=>k
 | .a x y=>x.I+y.I
 | .s x y=>x.I-y.I
 | .m k x=>k*x.I
 | .r x k=>x.I*k
 | .c x=>(x.N xs:Nat)
 |_=>0
noncomputable def P:A->Prop
 | .le x y=>x.N xs<=y.N xs
 | .lt x y=>x.N xs<y.N xs
 | .eq x y=>x.N xs=y.N xs
 | .Le x y=>x.I xs zs<=y.I xs zs
 | .Lt x y=>x.I xs zs<y.I xs zs
 | .Eq x y=>x.I xs zs=y.I xs zs
 | .no x=>¬x.P
 | .d x y=>x.P/\y.P
 |_=>False
noncomputable def imp(g:A):List A->Prop
 | []=>g.P xs zs
 |h::hs=>h.P xs zs->imp g hs
noncomputable def ev(k:Nat):Int:=if k=0 then 1 else if k % 2=1 then(G_ 0 xs (k/2):Nat) else G_ 0 zs (k/2-1)
end
noncomputable def dot(e:Nat->Int):List Int->Nat->Int
 | []=>fun O=>0
 |w::l=>fun i=>w*e i+dot e l (i+1)
noncomputable def add:List Int->List Int->List Int
 | []=>fun l=>l
 |u::l=>fun k=>List.rec (u::l) (fun w k O=>(u+w)::add l k) k
noncomputable def scale(k:Int):List Int->List Int
 | []=> []
 |w::l=>(k*w)::scale k l
noncomputable def unit:Nat->List Int
 |0=> [1]
 |k+1=>0::unit k
noncomputable def nat:A->List Int
 | .v i=>unit (2*i+1)
 | .n k=> [(k:Int)]
 | .a x y=>add x.nat y.nat
 | .m k x=>scale k x.nat
 | .r x k=>scale k x.nat
 |_=> []
noncomputable def int:A->List Int
 | .v i=>unit (2*i+2)
 | .n k=> [(k:Int)]
 | .a x y=>add x.int y.int
 | .s x y=>add x.int (scale (-1) y.int)
 | .m k x=>scale k x.int
 | .r x k=>scale k x.int
 | .c x=>x.nat
 |_=> []
noncomputable def mZ(k:Int)(x y:List Int):List Int:=add [k] (add y (scale (-1) x))
noncomputable def Rc:A->List (List Int)
 | .le x y=> [mZ (-1) y.nat x.nat]
 | .lt x y=> [mZ 0 y.nat x.nat]
 | .Le x y=> [mZ (-1) y.int x.int]
 | .Lt x y=> [mZ 0 y.int x.int]
 |_=> []
noncomputable def pos:A->List (List Int)
 | .le x y=> [mZ 0 x.nat y.nat]
 | .lt x y=> [mZ (-1) x.nat y.nat]
 | .eq x y=> [mZ 0 x.nat y.nat,mZ 0 y.nat x.nat]
 | .Le x y=> [mZ 0 x.int y.int]
 | .Lt x y=> [mZ (-1) x.int y.int]
 | .Eq x y=> [mZ 0 x.int y.int,mZ 0 y.int x.int]
 | .no x=>Rc x
 | .d x y=>x.pos++y.pos
 |_=> []
noncomputable def neg:A->List (List (List Int))
 | .le x y=> [[mZ (-1) y.nat x.nat]]
 | .lt x y=> [[mZ 0 y.nat x.nat]]
 | .eq x y=> [[mZ (-1) x.nat y.nat], [mZ (-1) y.nat x.nat]]
 | .Le x y=> [[mZ (-1) y.int x.int]]
 | .Lt x y=> [[mZ 0 y.int x.int]]
 | .Eq x y=> [[mZ (-1) x.int y.int], [mZ (-1) y.int x.int]]
 | .no x=> [x.pos]
 | .d x y=>x.neg++y.neg
 |_=> [[]]
noncomputable def comb:List Nat->List (List Int)->List Int
 | []=>fun O=> []
 |k::ks=>fun ls=>List.rec [] (fun l ls O=>add (scale k l) (comb ks ls)) ls
noncomputable def zero:List Int->Bool
 | []=>true
 |w::l=>w==0&&zero l
noncomputable def bad(l:List Int):Bool:=List.rec false (fun w l O=>decide (w<0)&&zero l) l
noncomputable def Cv(hs:List (List Int)):List (List (List Int))->List (List Nat)->Bool
 | []=>fun O=>true
 |q::qs=>fun ks=>List.rec false (fun k ks O=>bad (comb k (q++hs))&&Cv hs qs ks) ks
noncomputable def facts:List A->List (List Int)
 | []=> [unit 1,unit 3,unit 5,unit 7,unit 9,unit 11,unit 13,unit 15,unit 17,unit 19,unit 21,unit 23,unit 25,unit 27,unit 29,unit 31]
 |h::hs=>h.pos++facts hs
section
variable {e:Nat->Int}
theorem q1(u w x y z:Int):(u+w)*z+(x+y)=u*z+x+(w*z+y):=by rw [Int.add_mul];omega
theorem nM:∀(p q:List Int) (i:Nat),dot e (add p q) i=dot e p i+dot e q i
 | [],q,i=>(Int.zero_add _).symm
 |u::l, [],i=>(Int.add_zero _).symm
 |u::l,w::k,i=>(congrArg ((u+w)*e i+ ·) (nM l k (i+1))).trans (q1 _ _ _ _ _)
theorem i9(k:Int):∀(p:List Int) (i:Nat),dot e (scale k p) i=k*dot e p i
 | [],i=>(Int.mul_zero _).symm
 |u::l,i=>(congrArg (k*u*e i+ ·) (i9 k l (i+1))).trans ((congrArg (· +_) (Int.mul_assoc k u (e i))).trans (Int.mul_add k _ _).symm)
theorem yP(k:Int)(i:Nat):dot e [k] i=k*e i:=Int.add_zero _
theorem sU:∀(k i:Nat),dot e (unit k) i=e (i+k)
 |0,i=>(yP 1 i).trans (Int.one_mul _)
 |k+1,i=>by
  show 0*e i+dot e (unit k) (i+1)=_;rw [sU k,Int.zero_mul,Int.zero_add,Nat.add_right_comm];rfl
theorem Eu(k:Int)(x y:List Int):dot e (mZ k x y) 0=k*e 0+(dot e y 0+ -1*dot e x 0):=by
 unfold mZ;rw [nM,nM,i9,yP]
end
section
variable {xs:List Nat}{zs:List Int}
theorem Jb(i:Nat):ev xs zs (0+(2*i+1))=(G_ 0 xs i:Nat):=by
 unfold ev;rw [if_neg (by omega),if_pos (by omega),show(0+(2*i+1))/2=i by omega]
theorem O9(i:Nat):ev xs zs (0+(2*i+2))=G_ 0 zs i:=by
 unfold ev;rw [if_neg (by omega),if_neg (by omega),show(0+(2*i+2))/2-1=i by omega]
theorem LZ(k:Int):dot (ev xs zs) [k] 0=k:=(yP k 0).trans (Int.mul_one k)
theorem gz(x:A):dot (ev xs zs) x.nat 0=(x.N xs:Nat):=by
 induction x with
 |v i=>exact(sU _ _).trans (Jb i)
 |n k=>exact LZ _
 |a x y hx hy=>exact(nM _ _ _).trans (by rw [hx,hy];rfl)
 |m k x hx=>exact(i9 _ _ _).trans (by rw [hx];rfl)
 |r x k hx=>exact(i9 _ _ _).trans (by rw [hx,Int.mul_comm];rfl)
 |_=>rfl
theorem gX(x:A):dot (ev xs zs) x.int 0=x.I xs zs:=by
 induction x with
 |v i=>exact(sU _ _).trans (O9 i)
 |n k=>exact LZ _
 |a x y hx hy=>exact(nM _ _ _).trans (by rw [hx,hy];rfl)
 |s x y hx hy=>exact(nM _ _ _).trans (by rw [i9,hx,hy,Int.neg_mul,Int.one_mul];rfl)
 |m k x hx=>exact(i9 _ _ _).trans (by rw [hx];rfl)
 |r x k hx=>exact(i9 _ _ _).trans (by rw [hx,Int.mul_comm];rfl)
 |c x _=>exact gz x
 |_=>rfl
def All(xs:List Nat)(zs:List Int)(ls:List (List Int)):Prop:=∀l,l∈ls->0<=dot (ev xs zs) l 0
theorem All.one{l:List Int}(h:0<=dot (ev xs zs) l 0):All xs zs [l]:=fun k hk=>by rw [List.mem_singleton.mp hk];exact h
theorem All.app{p q:List (List Int)}(h:All xs zs p)(k:All xs zs q):All xs zs (p++q):=fun l hl=>(List.mem_append.mp hl).elim (h l) (k l)
theorem fR{x y:List Int}{u w:Int}(hx:dot (ev xs zs) x 0=u)(hy:dot (ev xs zs) y 0=w)(h:u<=w):0<=dot (ev xs zs) (mZ 0 x y) 0:=by
 rw [Eu,hx,hy];show 0<=0*1+(w+ -1*u);omega
theorem fS{x y:List Int}{u w:Int}(hx:dot (ev xs zs) x 0=u)(hy:dot (ev xs zs) y 0=w)(h:u<w):0<=dot (ev xs zs) (mZ (-1) x y) 0:=by
 rw [Eu,hx,hy];show 0<= -1*1+(w+ -1*u);omega
theorem rH(x:A)(h:¬x.P xs zs):All xs zs x.Rc:=by
 cases x with
 |le x y=>exact .one (fS (gz _) (gz _) (Int.ofNat_lt.mpr (Nat.lt_of_not_le h)))
 |lt x y=>exact .one (fR (gz _) (gz _) (Int.ofNat_le.mpr (Nat.le_of_not_lt h)))
 |Le x y=>exact .one (fS (gX _) (gX _) (Int.lt_of_not_ge h))
 |Lt x y=>exact .one (fR (gX _) (gX _) (Int.not_lt.mp h))
 |_=>exact fun O h=>nomatch h
theorem Jc(x:A):x.P xs zs->All xs zs x.pos:=by
 induction x with
 |le x y=>exact fun h=> .one (fR (gz _) (gz _) (Int.ofNat_le.mpr h))
 |lt x y=>exact fun h=> .one (fS (gz _) (gz _) (Int.ofNat_lt.mpr h))
 |eq x y=>exact fun h=> .app (.one (fR (gz _) (gz _) (Int.ofNat_le.mpr (Nat.le_of_eq h)))) (.one (fR (gz _) (gz _) (Int.ofNat_le.mpr (Nat.le_of_eq h.symm))))
 |Le x y=>exact fun h=> .one (fR (gX _) (gX _) h)
 |Lt x y=>exact fun h=> .one (fS (gX _) (gX _) h)
 |Eq x y=>exact fun h=> .app (.one (fR (gX _) (gX _) (Int.le_of_eq h))) (.one (fR (gX _) (gX _) (Int.le_of_eq h.symm)))
 |no x=>exact fun h=>rH x h
 |d x y hx hy=>exact fun h=> .app (hx h.1) (hy h.2)
 |_=>exact fun h=>h.elim
theorem O_(x:A):¬x.P xs zs->∃q,q∈x.neg/\All xs zs q:=by
 induction x with
 |le x y=>exact fun h=>⟨_,.head _,rH (.le x y) h⟩
 |lt x y=>exact fun h=>⟨_,.head _,rH (.lt x y) h⟩
 |eq x y=>exact fun h=>(Nat.lt_or_gt_of_ne h).elim (fun q=>⟨_,.head _,.one (fS (gz _) (gz _) (Int.ofNat_lt.mpr q))⟩) fun q=>⟨_,.tail _ (.head _),.one (fS (gz _) (gz _) (Int.ofNat_lt.mpr q))⟩
 |Le x y=>exact fun h=>⟨_,.head _,rH (.Le x y) h⟩
 |Lt x y=>exact fun h=>⟨_,.head _,rH (.Lt x y) h⟩
 |Eq x y=>exact fun h=>(Int.lt_or_gt_of_ne h).elim (fun q=>⟨_,.head _,.one (fS (gX _) (gX _) q)⟩) fun q=>⟨_,.tail _ (.head _),.one (fS (gX _) (gX _) q)⟩
 |no x=>exact fun h=>⟨_,.head _,Jc x (Classical.not_not.mp h)⟩
 |d x y hx hy=>exact fun h=>(Classical.em (x.P xs zs)).elim (fun p=>let⟨q,i,j⟩:=hy fun r=>h ⟨p,r⟩;⟨q,List.mem_append_right _ i,j⟩) fun p=>let⟨q,i,j⟩:=hx p;⟨q,List.mem_append_left _ i,j⟩
 |_=>exact fun O=>⟨_,.head _,fun O h=>nomatch h⟩
theorem Ew:∀(ks:List Nat) (ls:List (List Int)),All xs zs ls->0<=dot (ev xs zs) (comb ks ls) 0
 | [],_,_=>Int.le_refl 0
 |_::_, [],_=>Int.le_refl 0
 |k::ks,l::ls,h=>by
  show 0<=dot (ev xs zs) (add (scale k l) (comb ks ls)) 0;rw [nM,i9];exact Int.add_nonneg (Int.mul_nonneg (Int.natCast_nonneg k) (h l (.head _))) (Ew ks ls fun l hl=>h l (.tail _ hl))
theorem Ex{e:Nat->Int}:∀ {l:List Int} {i:Nat},zero l=true->dot e l i=0
 | [],_,_=>rfl
 |w::l,i,h=>by
  have h:(w==0&&zero l)=true:=h;rw [Bool.and_eq_true,beq_iff_eq] at h;show w*e i+dot e l (i+1)=0;rw [h.1,Ex h.2,Int.zero_mul];rfl
theorem Pa:∀ {l:List Int},bad l=true->¬0<=dot (ev xs zs) l 0
 | [],h,_=>nomatch h
 |w::l,h,k=>by
  have h:(decide (w<0)&&zero l)=true:=h;rw [Bool.and_eq_true,decide_eq_true_eq] at h;have k:0<=w*1+dot (ev xs zs) l 1:=k;rw [Ex h.2,Int.mul_one,Int.add_zero] at k;exact Int.not_lt.mpr k h.1
theorem BI{fs:List (List Int)}(hf:All xs zs fs):∀ {qs:List (List (List Int))} {ks:List (List Nat)},Cv fs qs ks=true->∀q,q∈qs->¬All xs zs q
 | [],_,_,_,hq=>nomatch hq
 |_::_, [],h,_,_=>nomatch h
 |q::qs,k::ks,h,x,hx=>by
  have h:(bad (comb k (q++fs))&&Cv fs qs ks)=true:=h;rw [Bool.and_eq_true] at h;exact(List.mem_cons.mp hx).elim (fun e p=>Pa (xs:=xs) (zs:=zs) h.1 (Ew k _ (.app (e▸p) hf))) fun hx=>BI hf h.2 x hx
theorem BJ(g:A):∀ {hs:List A},(All xs zs (facts hs)->g.P xs zs)->imp xs zs g hs
 | [],k=>k fun l hl=>by
  have u:∀i,0<=dot (ev xs zs) (unit (2*i+1)) 0:=fun i=>by rw [sU,Jb];exact Int.natCast_nonneg _
  have key:∀i,All xs zs [unit (2*i+1)]:=fun i=> .one (u i);exact((key 0).app ((key 1).app ((key 2).app ((key 3).app ((key 4).app ((key 5).app ((key 6).app ((key 7).app ((key 8).app ((key 9).app ((key 10).app ((key 11).app ((key 12).app ((key 13).app ((key 14).app (key 15)))))))))))))))) l hl
 |h::hs,k=>fun q=>BJ g fun r=>k ((Jc h q).app r)
end
end
end A
theorem ah(g:A)(hs:List A)(ct:List (List Nat))(h:A.Cv (A.facts hs) g.neg ct=true)(xs:List Nat)(zs:List Int):A.imp xs zs g hs:=
 A.BJ g fun k=>Classical.byContradiction fun q=>let⟨_,a,b⟩:=A.O_ g q;A.BI k h _ a b
theorem spS(x y:Nat):x-y+y=x\/(x<y/\x-y=0):=(Nat.lt_or_ge x y).elim (fun h=> .inr ⟨h,Nat.sub_eq_zero_of_le (Nat.le_of_lt h)⟩) fun h=> .inl (Nat.sub_add_cancel h)
theorem spT(x:Int):((x.toNat:Nat):Int)=x\/(x<0/\x.toNat=0):=(Int.lt_or_le x 0).elim (fun h=> .inr ⟨h,Int.toNat_of_nonpos (Int.le_of_lt h)⟩) fun h=> .inl (Int.toNat_of_nonneg h)
theorem i_(x y:Nat):(x<=y/\min x y=x)\/(y<x/\min x y=y):=(Nat.lt_or_ge y x).elim (fun h=> .inr ⟨h,Nat.min_eq_right (Nat.le_of_lt h)⟩) fun h=> .inl ⟨h,Nat.min_eq_left h⟩
theorem Ha{x y:Nat}(h:x≠y):x<y\/y<x:=Nat.lt_or_gt_of_ne h
theorem spZ{x y:Int}(h:x≠y):x<y\/y<x:=Int.lt_or_gt_of_ne h
end
section
open A
namespace A
noncomputable abbrev B:A:= .v 0
noncomputable abbrev C:A:= .v 1
noncomputable abbrev D:A:= .v 2
noncomputable abbrev E:A:= .v 3
noncomputable abbrev F:A:= .v 4
noncomputable abbrev G:A:= .v 5
noncomputable abbrev H:A:= .v 6
noncomputable abbrev J:A:= .v 7
noncomputable abbrev K:A:= .v 8
noncomputable abbrev L:A:= .v 9
noncomputable abbrev v10:A:= .v 10
noncomputable abbrev v11:A:= .v 11
noncomputable abbrev Pd:A:= .v 12
end A
noncomputable abbrev n0:A:= .n 0
noncomputable abbrev n1:A:= .n 1
noncomputable abbrev n2:A:= .n 2
noncomputable abbrev n3:A:= .n 3
noncomputable abbrev n4:A:= .n 4
noncomputable abbrev n5:A:= .n 5
noncomputable abbrev n7:A:= .n 7
noncomputable abbrev n8:A:= .n 8
noncomputable abbrev dZ:A:= .n 10
noncomputable abbrev fO:A:= .n 12
noncomputable abbrev mu:A:= .n 16
noncomputable abbrev rp:A:= .n 24
noncomputable abbrev eD:A:= .n 100
noncomputable abbrev fW:A:= .n 148
noncomputable abbrev cM:A:= .n 160
noncomputable abbrev Ey:A:= .n 255
noncomputable abbrev iD:A:= .n 256
noncomputable abbrev gh:A:= .n 384
noncomputable abbrev gK:A:= .n 1000
noncomputable abbrev aJ:A:= .n 100000
noncomputable abbrev ei:A:= .n 16777216
noncomputable abbrev c6:A:= .n 4294967296
noncomputable abbrev bU:A:= .n 1152921504606846976
noncomputable abbrev aZ:A:= .n 4611686018427387904
noncomputable abbrev bw:A:= .n 9223372036854775808
section
variable {a b c d e i j k l m n o p r s t:Nat}{u v w x y z u1 C:Int}
theorem O1:a<b->a≠b+1:=ah (.no (.eq B (.a C n1))) [(.lt B C)] [[0,1,1]] rfl [a,b] []
theorem lk{a b c:Nat}(h:a<=b)(e:Nat.ble b c=true:=by rfl):a<=c:=Nat.le_trans h (Nat.le_of_ble_eq_true e)
theorem O2:0<=(a:Int):=ah (.Le n0 (.c B)) [] [[1,1]] rfl [a] []
theorem O3:a+1<b->a<b:=ah (.lt B C) [(.lt (.a B n1) C)] [[1,1]] rfl [a,b] []
theorem O4:4<=8:=ah (.le n4 n8) [] [[1]] rfl [] []
theorem O5:0<=u/\u<5->Int.toNat (1+u)<=5:=fun h0=>(spT ((1:Int)+u)).elim (fun q0=>ah (.le B n5) [(.Eq (.c B) (.a n1 B)),(.d (.Le n0 B) (.Lt B n5))] [[1,1,0,0,1]] rfl [(Int.toNat ((1:Int)+u))] [u] q0 h0) (fun q0=>ah (.le B n5) [(.d (.Lt (.a n1 B) n0) (.eq B n0)),(.d (.Le n0 B) (.Lt B n5))] [[1,0,1]] rfl [(Int.toNat ((1:Int)+u))] [u] q0 h0)
theorem O7:b=a+1->a<b:=ah (.lt B C) [(.eq C (.a B n1))] [[1,0,1]] rfl [a,b] []
theorem O8:a≠a+1:=ah (.no (.eq B (.a B n1))) [] [[0,1]] rfl [a] []
theorem Cx:a<3->0<=(a:Int)/\(a:Int)<2 ^ 62:=ah (.d (.Le n0 (.c B)) (.Lt (.c B) aZ)) [(.lt B n3)] [[1,0,1],[1,1]] rfl [a] []
theorem Wt:a<=100->a<=100000:=ah (.le B aJ) [(.le B eD)] [[1,1]] rfl [a] []
theorem Cy:a<a+1:=ah (.lt B (.a B n1)) [] [[1]] rfl [a] []
theorem Ez:b<=10->a=b->a<=100000:=ah (.le B aJ) [(.le C dZ),(.eq B C)] [[1,1,1]] rfl [a,b] []
theorem EA:b=a+2->a<b:=ah (.lt B C) [(.eq C (.a B n2))] [[1,0,1]] rfl [a,b] []
theorem EB:a+2≠a+1:=ah (.no (.eq (.a B n2) (.a B n1))) [] [[1]] rfl [a] []
theorem EC:a<=a+2:=ah (.le B (.a B n2)) [] [[1]] rfl [a] []
theorem ED:a=160->a<=100000:=ah (.le B aJ) [(.eq B cM)] [[1,1]] rfl [a] []
theorem Hb:a<=100000->a<=16777216:=ah (.le B ei) [(.le B aJ)] [[1,1]] rfl [a] []
theorem Hc:a<=10->a<=100:=ah (.le B eD) [(.le B dZ)] [[1,1]] rfl [a] []
theorem Hd:a<=900->4+a<=100000:=ah (.le (.a n4 B) aJ) [(.le B (.n 900))] [[1,1]] rfl [a] []
theorem He:¬(b<=a)->a<=b:=ah (.le B C) [(.no (.le C B))] [[1,1]] rfl [a,b] []
theorem Hf:a<c->c<=b->a<b:=ah (.lt B C) [(.lt B D),(.le D C)] [[1,1,1]] rfl [a,b,c] []
theorem Pf:1<=1:=ah (.le n1 n1) [] [[1]] rfl [] []
theorem Ka:b<=100->a=b->a<=100000:=ah (.le B aJ) [(.le C eD),(.eq B C)] [[1,1,1]] rfl [a,b] []
theorem Kb:a<b->a<b+1:=ah (.lt B (.a C n1)) [(.lt B C)] [[1,1]] rfl [a,b] []
theorem Kd:0<=u/\u<5->1<=Int.toNat (1+u):=fun h0=>(spT ((1:Int)+u)).elim (fun q0=>ah (.le n1 B) [(.Eq (.c B) (.a n1 B)),(.d (.Le n0 B) (.Lt B n5))] [[1,0,1,1]] rfl [(Int.toNat ((1:Int)+u))] [u] q0 h0) (fun q0=>ah (.le n1 B) [(.d (.Lt (.a n1 B) n0) (.eq B n0)),(.d (.Le n0 B) (.Lt B n5))] [[0,1,0,0,1]] rfl [(Int.toNat ((1:Int)+u))] [u] q0 h0)
theorem Ke:a+1<b/\a+2<b/\c<b->a<b:=ah (.lt B C) [(.d (.lt (.a B n1) C) (.d (.lt (.a B n2) C) (.lt D C)))] [[1,1]] rfl [a,b,c] []
theorem Wu:b<a->a-b=c+1->a-(b+1)=c:=fun h0 h1=>(spS a b).elim (fun q0=>(spS a (b+1)).elim (fun q1=>ah (.eq F D) [(.eq (.a F (.a C n1)) B),(.eq (.a E C) B),(.lt C B),(.eq E (.a D n1))] [[1,0,1,1,0,0,0,1],[1,1,0,0,1,0,1]] rfl [a,b,c,(a-b),(a-(b+1))] [] q1 q0 h0 h1) (fun q1=>ah (.eq F D) [(.d (.lt B (.a C n1)) (.eq F n0)),(.eq (.a E C) B),(.lt C B),(.eq E (.a D n1))] [[0,1,0,0,0,0,1],[1,0,1,0,0,0,0,0,0,0,0,1]] rfl [a,b,c,(a-b),(a-(b+1))] [] q1 q0 h0 h1)) (fun q0=>ah (.eq F D) [(.d (.lt B C) (.eq E n0)),(.lt C B),(.eq E (.a D n1))] [[0,1,0,0,1],[0,1,0,0,1]] rfl [a,b,c,(a-b),(a-(b+1))] [] q0 h0 h1)
theorem Pg:a<=10->a<=100000:=ah (.le B aJ) [(.le B dZ)] [[1,1]] rfl [a] []
theorem Kf:a<=a:=ah (.le B B) [] [[1]] rfl [a] []
theorem O34:a<=1000->a<=100000:=ah (.le B aJ) [(.le B gK)] [[1,1]] rfl [a] []
theorem Kg:b<c->c<=a->a≠b:=ah (.no (.eq B C)) [(.lt C D),(.le D B)] [[1,0,1,1]] rfl [a,b,c] []
theorem L0:a<=6->a<=100000:=ah (.le B aJ) [(.le B (.n 6))] [[1,1]] rfl [a] []
theorem Ph:a+1<=b->a<=b:=ah (.le B C) [(.le (.a B n1) C)] [[1,1]] rfl [a,b] []
theorem L2:0<=u/\u<4294967296->u<256 ^ 4:=ah (.Lt B c6) [(.d (.Le n0 B) (.Lt B c6))] [[1,0,1]] rfl [] [u]
theorem O39:a<=8->a<=100000:=ah (.le B aJ) [(.le B n8)] [[1,1]] rfl [a] []
theorem Pj:a+1<b/\c<b/\d<b->a<b:=ah (.lt B C) [(.d (.lt (.a B n1) C) (.d (.lt D C) (.lt E C)))] [[1,1]] rfl [a,b,c,d] []
theorem Pk:b=a+2->a+1<b:=ah (.lt (.a B n1) C) [(.eq C (.a B n2))] [[1,0,1]] rfl [a,b] []
theorem Pl:a+3≠a+1:=ah (.no (.eq (.a B n3) (.a B n1))) [] [[1]] rfl [a] []
theorem Pm:a=384->a<=100000:=ah (.le B aJ) [(.eq B gh)] [[1,1]] rfl [a] []
theorem Pn:0<=u->u=((Int.toNat u:Nat):Int):=fun h0=>(spT u).elim (fun q0=>ah (.Eq B (.c B)) [(.Eq (.c B) B),(.Le n0 B)] [[1,1],[1,0,1]] rfl [(Int.toNat u)] [u] q0 h0) (fun q0=>ah (.Eq B (.c B)) [(.d (.Lt B n0) (.eq B n0)),(.Le n0 B)] [[0,1,0,0,1],[0,1,0,0,1]] rfl [(Int.toNat u)] [u] q0 h0)
theorem Po:0<=u/\u<2 ^ 32->0<=u:=ah (.Le n0 B) [(.d (.Le n0 B) (.Lt B c6))] [[1,1]] rfl [] [u]
theorem Pp:0<=u/\u<2 ^ 32->u<256 ^ 4:=ah (.Lt B c6) [(.d (.Le n0 B) (.Lt B c6))] [[1,0,1]] rfl [] [u]
theorem Pq:a<=100000->(a:Int)<2 ^ 63:=ah (.Lt (.c B) bw) [(.le B aJ)] [[1,1]] rfl [a] []
theorem Pr:a<=148->4+a<=1000:=ah (.le (.a n4 B) gK) [(.le B fW)] [[1,1]] rfl [a] []
theorem Wv:0<=8*(a:Int):=ah (.Le n0 (.m 8 (.c B))) [] [[1,8]] rfl [a] []
theorem TB:a+1=b+1->a=b:=ah (.eq B C) [(.eq (.a B n1) (.a C n1))] [[1,0,1],[1,1]] rfl [a,b] []
theorem TC:10<=u/\u<=15->0<=u:=ah (.Le n0 B) [(.d (.Le dZ B) (.Le B (.n 15)))] [[1,1]] rfl [] [u]
theorem TF:10<=u/\u<=15->u<256 ^ 4:=ah (.Lt B c6) [(.d (.Le dZ B) (.Le B (.n 15)))] [[1,0,1]] rfl [] [u]
theorem TG:10<=u/\u<=15->u<2 ^ 62:=ah (.Lt B aZ) [(.d (.Le dZ B) (.Le B (.n 15)))] [[1,0,1]] rfl [] [u]
theorem TH:a+1<b/\c<b->a<b:=ah (.lt B C) [(.d (.lt (.a B n1) C) (.lt D C))] [[1,1]] rfl [a,b,c] []
theorem TJ:b<=10->min a b<=10:=fun h0=>(i_ a b).elim (fun q0=>ah (.le D dZ) [(.d (.le B C) (.eq D B)),(.le C dZ)] [[1,1,1,0,1]] rfl [a,b,(min a b)] [] q0 h0) (fun q0=>ah (.le D dZ) [(.d (.lt C B) (.eq D C)),(.le C dZ)] [[1,0,1,0,1]] rfl [a,b,(min a b)] [] q0 h0)
theorem TK:0<=u/\u<5->0<=1+u:=ah (.Le n0 (.a n1 B)) [(.d (.Le n0 B) (.Lt B n5))] [[1,1]] rfl [] [u]
theorem Ww:a<=63->a<=100000:=ah (.le B aJ) [(.le B (.n 63))] [[1,1]] rfl [a] []
theorem TL:a-b<=a-b:=ah (.le D D) [] [[1]] rfl [a,b,(a-b)] []
theorem O65:a<=b->a+1<=b+1:=ah (.le (.a B n1) (.a C n1)) [(.le B C)] [[1,1]] rfl [a,b] []
theorem TM:c=a+2->b=c->a<b:=ah (.lt B C) [(.eq D (.a B n2)),(.eq C D)] [[1,0,1,0,1]] rfl [a,b,c] []
theorem TN:b+1<=a->a-(b+1)<a:=fun h0=>(spS a (b+1)).elim (fun q0=>ah (.lt D B) [(.eq (.a D (.a C n1)) B),(.le (.a C n1) B)] [[1,1,0,0,0,1]] rfl [a,b,(a-(b+1))] [] q0 h0) (fun q0=>ah (.lt D B) [(.d (.lt B (.a C n1)) (.eq D n0)),(.le (.a C n1) B)] [[0,1,0,0,1]] rfl [a,b,(a-(b+1))] [] q0 h0)
theorem Wx:b<a->a-b=a-b-1+1:=fun h0=>(spS a b).elim (fun q0=>(spS (a-b) 1).elim (fun q1=>ah (.eq D (.a E n1)) [(.eq (.a E n1) D),(.eq (.a D C) B),(.lt C B)] [[1,1],[1,0,1]] rfl [a,b,(a-b),((a-b)-1)] [] q1 q0 h0) (fun q1=>ah (.eq D (.a E n1)) [(.d (.lt D n1) (.eq E n0)),(.eq (.a D C) B),(.lt C B)] [[0,1,0,0,0,1,1],[0,1,0,0,0,1,1]] rfl [a,b,(a-b),((a-b)-1)] [] q1 q0 h0)) (fun q0=>ah (.eq D (.a E n1)) [(.d (.lt B C) (.eq D n0)),(.lt C B)] [[0,1,0,0,1],[0,1,0,0,1]] rfl [a,b,(a-b),((a-b)-1)] [] q0 h0)
theorem Wy:c<a->a-c=b+1->a-(b+1)=c:=fun h0 h1=>(spS a c).elim (fun q0=>(spS a (b+1)).elim (fun q1=>ah (.eq F D) [(.eq (.a F (.a C n1)) B),(.eq (.a E D) B),(.lt D B),(.eq E (.a C n1))] [[1,0,1,1,0,0,0,1],[1,1,0,0,1,0,1]] rfl [a,b,c,(a-c),(a-(b+1))] [] q1 q0 h0 h1) (fun q1=>ah (.eq F D) [(.d (.lt B (.a C n1)) (.eq F n0)),(.eq (.a E D) B),(.lt D B),(.eq E (.a C n1))] [[0,1,0,0,1,0,0,0,1,0,0,1],[0,1,0,0,1,0,0,0,1,0,0,1]] rfl [a,b,c,(a-c),(a-(b+1))] [] q1 q0 h0 h1)) (fun q0=>ah (.eq F D) [(.d (.lt B D) (.eq E n0)),(.lt D B),(.eq E (.a C n1))] [[0,1,0,0,1],[0,1,0,0,1]] rfl [a,b,c,(a-c),(a-(b+1))] [] q0 h0 h1)
theorem O72:a<=b->a<=b+1:=ah (.le B (.a C n1)) [(.le B C)] [[1,1]] rfl [a,b] []
theorem TO:¬((a:Int)<0):=ah (.no (.Lt (.c B) n0)) [] [[1,1]] rfl [a] []
theorem TP:0<=u/\u<2 ^ 32->u<2 ^ 60:=ah (.Lt B bU) [(.d (.Le n0 B) (.Lt B c6))] [[1,0,1]] rfl [] [u]
theorem TQ:b=c+2->a<c->a<b:=ah (.lt B C) [(.eq C (.a D n2)),(.lt B D)] [[1,0,1,1]] rfl [a,b,c] []
theorem TR:u<2 ^ 32->u<256 ^ 4:=ah (.Lt B c6) [(.Lt B c6)] [[1,1]] rfl [] [u]
theorem TS:a<=148->(a:Int)<256 ^ 4:=ah (.Lt (.c B) c6) [(.le B fW)] [[1,1]] rfl [a] []
theorem TU:a<b->a<=b:=ah (.le B C) [(.lt B C)] [[1,1]] rfl [a,b] []
theorem TV:0<=u/\u<5->0<=1+u/\1+u<=100:=ah (.d (.Le n0 (.a n1 B)) (.Le (.a n1 B) eD)) [(.d (.Le n0 B) (.Lt B n5))] [[1,1],[1,0,1]] rfl [] [u]
theorem TX:b+1<c/\d<c/\e<c->c<=a->a≠b+1:=ah (.no (.eq B (.a C n1))) [(.d (.lt (.a C n1) D) (.d (.lt E D) (.lt F D))),(.le D B)] [[1,0,1,0,0,1]] rfl [a,b,c,d,e] []
theorem TY:c+1<d/\b<d/\e<d->d<=a->a≠b:=ah (.no (.eq B C)) [(.d (.lt (.a D n1) E) (.d (.lt C E) (.lt F E))),(.le E B)] [[1,0,0,1,0,1]] rfl [a,b,c,d,e] []
theorem TZ:c+1<d/\e<d/\b<d->d<=a->a≠b:=ah (.no (.eq B C)) [(.d (.lt (.a D n1) E) (.d (.lt F E) (.lt C E))),(.le E B)] [[1,0,0,0,1,1]] rfl [a,b,c,d,e] []
theorem T6:a+b<=100000->a+b<=16777216:=ah (.le (.a B C) ei) [(.le (.a B C) aJ)] [[1,1]] rfl [a,b] []
theorem T7:a<=148->12+a<=160:=ah (.le (.a fO B) cM) [(.le B fW)] [[1,1]] rfl [a] []
theorem T8:b=8->a<8->a<b:=ah (.lt B C) [(.eq C n8),(.lt B n8)] [[1,0,1,1]] rfl [a,b] []
theorem T9:¬(b<a)->a<=b:=ah (.le B C) [(.no (.lt C B))] [[1,1]] rfl [a,b] []
theorem T_:¬(a<8)->¬(a<12)->a<12+b->a-8-4<b:=fun h0 h1 h2=>(spS a 8).elim (fun q0=>(spS (a-8) 4).elim (fun q1=>ah (.lt D C) [(.eq (.a D n4) E),(.eq (.a E n8) B),(.no (.lt B n8)),(.no (.lt B fO)),(.lt B (.a fO C))] [[1,1,0,1,0,0,0,1]] rfl [a,b,((a-8)-4),(a-8)] [] q1 q0 h0 h1 h2) (fun q1=>ah (.lt D C) [(.d (.lt E n4) (.eq D n0)),(.eq (.a E n8) B),(.no (.lt B n8)),(.no (.lt B fO)),(.lt B (.a fO C))] [[1,0,1,0,0,0,0,1,1]] rfl [a,b,((a-8)-4),(a-8)] [] q1 q0 h0 h1 h2)) (fun q0=>ah (.lt D C) [(.d (.lt B n8) (.eq E n0)),(.no (.lt B n8)),(.no (.lt B fO)),(.lt B (.a fO C))] [[0,1,0,0,1]] rfl [a,b,((a-8)-4),(a-8)] [] q0 h0 h1 h2)
theorem Ua:b<c->c<=a->a+1≠b:=ah (.no (.eq (.a B n1) C)) [(.lt C D),(.le D B)] [[1,0,1,1]] rfl [a,b,c] []
theorem Wz:b<=100000->a<=b->a<=16777216:=ah (.le B ei) [(.le C aJ),(.le B C)] [[1,1,1]] rfl [a,b] []
theorem WA:a<=100000/\b<c->a<=16777216:=ah (.le B ei) [(.d (.le B aJ) (.lt C D))] [[1,1]] rfl [a,b,c] []
theorem WB:c<=b->a<c->a≠b:=ah (.no (.eq B C)) [(.le D C),(.lt B D)] [[0,1,1,1]] rfl [a,b,c] []
theorem WC:a<3->a=0\/a=1\/a=2:=by lia
theorem WD:a<64->a<=16777216:=ah (.le B ei) [(.lt B (.n 64))] [[1,1]] rfl [a] []
theorem WE:a+3*(c+1)<b->a<b:=ah (.lt B C) [(.lt (.a B (.m 3 (.a D n1))) C)] [[1,1,0,0,3]] rfl [a,b,c] []
theorem WG:c=d->b=d->a<c->a<b:=ah (.lt B C) [(.eq D E),(.eq C E),(.lt B D)] [[1,1,0,0,1,1]] rfl [a,b,c,d] []
theorem WH:c=d->a=d->¬(b<c)->a<=b:=ah (.le B C) [(.eq D E),(.eq B E),(.no (.lt C D))] [[1,0,1,1,0,1]] rfl [a,b,c,d] []
theorem WI:b<=10->a<=100*b->a<=100000:=ah (.le B aJ) [(.le C dZ),(.le B (.m 100 C))] [[1,100,1]] rfl [a,b] []
theorem Rf:c=a+1->d=c+1->b=d+1->a<b+1:=ah (.lt B (.a C n1)) [(.eq D (.a B n1)),(.eq E (.a D n1)),(.eq C (.a E n1))] [[1,0,1,0,1,0,1]] rfl [a,b,c,d] []
theorem Rg:a<=6->a<=100:=ah (.le B eD) [(.le B (.n 6))] [[1,1]] rfl [a] []
theorem Rh:0<=u/\u<=100000->u=((Int.toNat u:Nat):Int):=fun h0=>(spT u).elim (fun q0=>ah (.Eq B (.c B)) [(.Eq (.c B) B),(.d (.Le n0 B) (.Le B aJ))] [[1,1],[1,0,1]] rfl [(Int.toNat u)] [u] q0 h0) (fun q0=>ah (.Eq B (.c B)) [(.d (.Lt B n0) (.eq B n0)),(.d (.Le n0 B) (.Le B aJ))] [[0,1,0,0,1],[0,1,0,0,1]] rfl [(Int.toNat u)] [u] q0 h0)
theorem Ri:0<=(a:Int)/\(a:Int)<=100000->a<=100000:=ah (.le B aJ) [(.d (.Le n0 (.c B)) (.Le (.c B) aJ))] [[1,0,1]] rfl [a] []
theorem Rj:a+3*(b+1)<c->a+1+3*b<c:=ah (.lt (.a (.a B n1) (.m 3 C)) D) [(.lt (.a B (.m 3 (.a C n1))) D)] [[1,1]] rfl [a,b,c] []
theorem Rk:a<a+1+1:=ah (.lt B (.a (.a B n1) n1)) [] [[1]] rfl [a] []
theorem Rl:0<=u->¬(u<0):=ah (.no (.Lt B n0)) [(.Le n0 B)] [[1,1]] rfl [] [u]
theorem Rm:u<(a:Int)->a<=100000->u<2 ^ 62:=ah (.Lt B aZ) [(.Lt B (.c B)),(.le B aJ)] [[1,1,1]] rfl [a] [u]
theorem Rn:0<=u/\u<3->u=0\/u=1\/u=2:=by lia
theorem Ro:0<=u/\u<5->0<=70+u/\70+u<2 ^ 60:=ah (.d (.Le n0 (.a (.n 70) B)) (.Lt (.a (.n 70) B) bU)) [(.d (.Le n0 B) (.Lt B n5))] [[1,1],[1,0,1]] rfl [] [u]
theorem Rp:0<=u/\u<4->0<=1+u/\1+u<2 ^ 32:=ah (.d (.Le n0 (.a n1 B)) (.Lt (.a n1 B) c6)) [(.d (.Le n0 B) (.Lt B n4))] [[1,1],[1,0,1]] rfl [] [u]
theorem Rq:c=a+2->d=c->b=d->a<b:=ah (.lt B C) [(.eq D (.a B n2)),(.eq E D),(.eq C E)] [[1,0,1,0,1,0,1]] rfl [a,b,c,d] []
theorem WJ:a<=8->(a:Int)<=1000000:=ah (.Le (.c B) (.n 1000000)) [(.le B n8)] [[1,1]] rfl [a] []
theorem WK:a<=8->(a:Int)<2 ^ 60:=ah (.Lt (.c B) bU) [(.le B n8)] [[1,1]] rfl [a] []
theorem Rr:Int.toNat ((a:Int)*16+(b:Int))=a*16+b:=(spT ((((a:Nat):Int)*(16:Int))+((b:Nat):Int))).elim (fun q0=>ah (.eq D (.a (.r B 16) C)) [(.Eq (.c D) (.a (.r (.c B) 16) (.c C)))] [[1,0,1],[1,1]] rfl [a,b,(Int.toNat ((((a:Nat):Int)*(16:Int))+((b:Nat):Int)))] [] q0) (fun q0=>ah (.eq D (.a (.r B 16) C)) [(.d (.Lt (.a (.r (.c B) 16) (.c C)) n0) (.eq D n0))] [[0,1,0,0,16,1],[0,1,0,0,16,1]] rfl [a,b,(Int.toNat ((((a:Nat):Int)*(16:Int))+((b:Nat):Int)))] [] q0)
theorem Rt:0<=u/\u<160->u=(a:Int)->0*16+a<384:=ah (.lt (.a (.m 0 mu) B) gh) [(.d (.Le n0 B) (.Lt B cM)),(.Eq B (.c B))] [[1,0,1,0,1]] rfl [a] [u]
theorem Ru:0*16+a=a:=ah (.eq (.a (.m 0 mu) B) B) [] [[1],[1]] rfl [a] []
theorem Rv:0<=u/\u<160->u=(a:Int)->13*16+a<384:=ah (.lt (.a (.m 13 mu) B) gh) [(.d (.Le n0 B) (.Lt B cM)),(.Eq B (.c B))] [[1,0,1,0,1]] rfl [a] [u]
theorem Rw:13*16+a=208+a:=ah (.eq (.a (.m 13 mu) B) (.a (.n 208) B)) [] [[1],[1]] rfl [a] []
theorem WL:b<=100000->a<=c->c<b->a<=16777216:=ah (.le B ei) [(.le C aJ),(.le B D),(.lt D C)] [[1,1,1,1]] rfl [a,b,c] []
theorem Rx:a<=1000->a<=16777216:=ah (.le B ei) [(.le B gK)] [[1,1]] rfl [a] []
theorem Ry: -(2 ^ 63)<=(a:Int):=ah (.Le (.s n0 bw) (.c B)) [] [[1,1]] rfl [a] []
theorem Rz:a<=100000->¬(Int.toNat (a:Int)>16777216):=fun h0=>(spT ((a:Nat):Int)).elim (fun q0=>ah (.no (.lt ei C)) [(.Eq (.c C) (.c B)),(.le B aJ)] [[1,1,0,1]] rfl [a,(Int.toNat ((a:Nat):Int))] [] q0 h0) (fun q0=>ah (.no (.lt ei C)) [(.d (.Lt (.c B) n0) (.eq C n0)),(.le B aJ)] [[0,1,0,0,0,1]] rfl [a,(Int.toNat ((a:Nat):Int))] [] q0 h0)
theorem RA:a<=10->(a:Int)<256 ^ 1:=ah (.Lt (.c B) iD) [(.le B dZ)] [[1,1]] rfl [a] []
theorem RC:a<=10->(a:Int)<2 ^ 60:=ah (.Lt (.c B) bU) [(.le B dZ)] [[1,1]] rfl [a] []
theorem RD:c=a+2->b=c+1->a<=b:=ah (.le B C) [(.eq D (.a B n2)),(.eq C (.a D n1))] [[1,0,1,0,1]] rfl [a,b,c] []
theorem RE:a<3->b=3->a<b:=ah (.lt B C) [(.lt B n3),(.eq C n3)] [[1,1,0,1]] rfl [a,b] []
theorem RG:8+4+(a:Int)=12+(a:Int):=ah (.Eq (.a (.a n8 n4) (.c B)) (.a fO (.c B))) [] [[1],[1]] rfl [a] []
theorem RH:a+10<=24->0<=(a:Int)/\(0:Int)<=10/\(a:Int)+10<=24:=ah (.d (.Le n0 (.c B)) (.d (.Le n0 dZ) (.Le (.a (.c B) dZ) rp))) [(.le (.a B dZ) rp)] [[1,0,1],[1],[1,1]] rfl [a] []
theorem RI:a<=13->a+10<=24:=ah (.le (.a B dZ) rp) [(.le B (.n 13))] [[1,1]] rfl [a] []
theorem RJ:a<c->c<=d->d<=b->a<b:=ah (.lt B C) [(.lt B D),(.le D E),(.le E C)] [[1,1,1,1]] rfl [a,b,c,d] []
theorem RK:a<3->(a:Int)<256 ^ 1:=ah (.Lt (.c B) iD) [(.lt B n3)] [[1,1]] rfl [a] []
theorem RL:a<256->(a:Int)<256 ^ 1:=ah (.Lt (.c B) iD) [(.lt B iD)] [[1,1]] rfl [a] []
theorem RM:a+16*0+12<d->min b c<=10->a+min b c<d:=fun h0 h1=>ah (.lt (.a B F) E) [(.lt (.a (.a B (.m 16 n0)) fO) E),(.le F dZ)] [[1,1,1]] rfl [a,b,c,d,(min b c)] [] h0 h1
theorem RN:a+16*0+12<b->a<b:=ah (.lt B C) [(.lt (.a (.a B (.m 16 n0)) fO) C)] [[1,1]] rfl [a,b] []
theorem RO:b+1<=a->a-(b+1)+1=a-b:=fun h0=>(spS a b).elim (fun q0=>(spS a (b+1)).elim (fun q1=>ah (.eq (.a D n1) E) [(.eq (.a D (.a C n1)) B),(.eq (.a E C) B),(.le (.a C n1) B)] [[1,0,1,1],[1,1,0,0,1]] rfl [a,b,(a-(b+1)),(a-b)] [] q1 q0 h0) (fun q1=>ah (.eq (.a D n1) E) [(.d (.lt B (.a C n1)) (.eq D n0)),(.eq (.a E C) B),(.le (.a C n1) B)] [[0,1,0,0,0,0,1],[0,1,0,0,0,0,1]] rfl [a,b,(a-(b+1)),(a-b)] [] q1 q0 h0)) (fun q0=>ah (.eq (.a D n1) E) [(.d (.lt B C) (.eq E n0)),(.le (.a C n1) B)] [[0,1,0,0,1],[0,1,0,0,1]] rfl [a,b,(a-(b+1)),(a-b)] [] q0 h0)
theorem RP:b<=100->c<b->a<=min c b->a<=100:=fun h0 h1 h2=>(i_ c b).elim (fun q0=>ah (.le B eD) [(.d (.le D C) (.eq E D)),(.le C eD),(.lt D C),(.le B E)] [[1,1,1,0,1,0,1]] rfl [a,b,c,(min c b)] [] q0 h0 h1 h2) (fun q0=>ah (.le B eD) [(.d (.lt C D) (.eq E C)),(.le C eD),(.lt D C),(.le B E)] [[0,1,0,0,0,1]] rfl [a,b,c,(min c b)] [] q0 h0 h1 h2)
theorem RQ:a<c->c<=b->a+1<=b:=ah (.le (.a B n1) C) [(.lt B D),(.le D C)] [[1,1,1]] rfl [a,b,c] []
theorem RR:a<=100->(a:Int)<256 ^ 1:=ah (.Lt (.c B) iD) [(.le B eD)] [[1,1]] rfl [a] []
theorem RS:a=b->b<=10->a<=100000:=ah (.le B aJ) [(.eq B C),(.le C dZ)] [[1,1,0,1]] rfl [a,b] []
theorem RT:a=b->b<=10->(a:Int)<256 ^ 1:=ah (.Lt (.c B) iD) [(.eq B C),(.le C dZ)] [[1,1,0,1]] rfl [a,b] []
theorem RU:a<b->a≠b+2:=ah (.no (.eq B (.a C n2))) [(.lt B C)] [[0,1,1]] rfl [a,b] []
theorem RV:a<=b->b<=1000->a<=100000:=ah (.le B aJ) [(.le B C),(.le C gK)] [[1,1,1]] rfl [a,b] []
theorem RW:b=c->a<c->a<b:=ah (.lt B C) [(.eq C D),(.lt B D)] [[1,0,1,1]] rfl [a,b,c] []
theorem RX:a<256->(a:Int)<256:=ah (.Lt (.c B) iD) [(.lt B iD)] [[1,1]] rfl [a] []
theorem RY:a<=100000->¬((a:Int)>=2 ^ 63):=ah (.no (.Le bw (.c B))) [(.le B aJ)] [[1,1]] rfl [a] []
theorem RZ:a+1<c->b=c+1->a<b:=ah (.lt B C) [(.lt (.a B n1) D),(.eq C (.a D n1))] [[1,1,0,1]] rfl [a,b,c] []
theorem R0:b+1<a->a≠b+1:=ah (.no (.eq B (.a C n1))) [(.lt (.a C n1) B)] [[1,0,1]] rfl [a,b] []
theorem R1:a=160->a<=10*16:=ah (.le B (.m 10 mu)) [(.eq B cM)] [[1,1]] rfl [a] []
theorem R2:a=8->¬(b<8)->a<=b:=ah (.le B C) [(.eq B n8),(.no (.lt C n8))] [[1,1,0,1]] rfl [a,b] []
theorem R3:b=4->a<12->a-8<b:=fun h0 h1=>(spS a 8).elim (fun q0=>ah (.lt D C) [(.eq (.a D n8) B),(.eq C n4),(.lt B fO)] [[1,1,0,0,1,1]] rfl [a,b,(a-8)] [] q0 h0 h1) (fun q0=>ah (.lt D C) [(.d (.lt B n8) (.eq D n0)),(.eq C n4),(.lt B fO)] [[1,0,1,0,0,1]] rfl [a,b,(a-8)] [] q0 h0 h1)
theorem R4:a<=148->a<256:=ah (.lt B iD) [(.le B fW)] [[1,1]] rfl [a] []
theorem R5:a=4->¬(b<8)->¬(b<12)->a<=b-8:=fun h0 h1 h2=>(spS b 8).elim (fun q0=>ah (.le B D) [(.eq (.a D n8) C),(.eq B n4),(.no (.lt C n8)),(.no (.lt C fO))] [[1,0,1,1,0,0,1]] rfl [a,b,(b-8)] [] q0 h0 h1 h2) (fun q0=>ah (.le B D) [(.d (.lt C n8) (.eq D n0)),(.eq B n4),(.no (.lt C n8)),(.no (.lt C fO))] [[0,1,0,0,0,0,1]] rfl [a,b,(b-8)] [] q0 h0 h1 h2)
theorem R6:32<=a->32<=(a:Int):=ah (.Le (.n 32) (.c B)) [(.le (.n 32) B)] [[1,1]] rfl [a] []
theorem R7:a<127->(a:Int)<127:=ah (.Lt (.c B) (.n 127)) [(.lt B (.n 127))] [[1,1]] rfl [a] []
theorem R8:b<=100->a=b->min a b<=100000:=fun h0 h1=>(i_ a b).elim (fun q0=>ah (.le D aJ) [(.d (.le B C) (.eq D B)),(.le C eD),(.eq B C)] [[1,1,1,0,1]] rfl [a,b,(min a b)] [] q0 h0 h1) (fun q0=>ah (.le D aJ) [(.d (.lt C B) (.eq D C)),(.le C eD),(.eq B C)] [[0,1,0,0,0,1]] rfl [a,b,(min a b)] [] q0 h0 h1)
theorem R9:a<160->a<208:=ah (.lt B (.n 208)) [(.lt B cM)] [[1,1]] rfl [a] []
theorem R_:160<=208+a:=ah (.le cM (.a (.n 208) B)) [] [[1,1]] rfl [a] []
theorem Sa:Int.natAbs u<2 ^ 64-> -(2 ^ 64)<u:=by lia
theorem Sb:Int.natAbs u<2 ^ 64->u<2 ^ 64:=by lia
theorem Se:b<=100->c<=b->a=c->a<=100000:=ah (.le B aJ) [(.le C eD),(.le D C),(.eq B D)] [[1,1,1,1]] rfl [a,b,c] []
theorem WM:b<=8->a<b->8*(a:Int)<=1000000:=ah (.Le (.m 8 (.c B)) (.n 1000000)) [(.le C n8),(.lt B C)] [[1,8,8]] rfl [a,b] []
theorem WN:a<256->Int.natAbs (a:Int)<2 ^ 64:=by lia
theorem WO:0<=u/\u<=v/\v<=(a:Int)/\b=Int.toNat v-Int.toNat u/\a<=100000/\c<d->u=((Int.toNat u:Nat):Int):=fun h0=>(spT u).elim (fun q0=>ah (.Eq B (.c G)) [(.Eq (.c G) B),(.d (.Le n0 B) (.d (.Le B C) (.d (.Le C (.c B)) (.d (.eq C F) (.d (.le B aJ) (.lt D E))))))] [[1,1],[1,0,1]] rfl [a,b,c,d,((Int.toNat v)-(Int.toNat u)),(Int.toNat u),(Int.toNat v)] [u,v] q0 h0) (fun q0=>ah (.Eq B (.c G)) [(.d (.Lt B n0) (.eq G n0)),(.d (.Le n0 B) (.d (.Le B C) (.d (.Le C (.c B)) (.d (.eq C F) (.d (.le B aJ) (.lt D E))))))] [[0,1,0,0,1],[0,1,0,0,1]] rfl [a,b,c,d,((Int.toNat v)-(Int.toNat u)),(Int.toNat u),(Int.toNat v)] [u,v] q0 h0)
theorem WQ:0<=(a:Int)/\(a:Int)<=u/\u<=(b:Int)/\c=Int.toNat u-Int.toNat (a:Int)/\b<=100000/\d<e->u=((Int.toNat u:Nat):Int):=fun h0=>(spT u).elim (fun q0=>ah (.Eq B (.c H)) [(.Eq (.c H) B),(.d (.Le n0 (.c B)) (.d (.Le (.c B) B) (.d (.Le B (.c C)) (.d (.eq D G) (.d (.le C aJ) (.lt E F))))))] [[1,1],[1,0,1]] rfl [a,b,c,d,e,((Int.toNat u)-(Int.toNat ((a:Nat):Int))),(Int.toNat u),(Int.toNat ((a:Nat):Int))] [u] q0 h0) (fun q0=>ah (.Eq B (.c H)) [(.d (.Lt B n0) (.eq H n0)),(.d (.Le n0 (.c B)) (.d (.Le (.c B) B) (.d (.Le B (.c C)) (.d (.eq D G) (.d (.le C aJ) (.lt E F))))))] [[0,1,0,0,1,1],[0,1,0,0,1,1]] rfl [a,b,c,d,e,((Int.toNat u)-(Int.toNat ((a:Nat):Int))),(Int.toNat u),(Int.toNat ((a:Nat):Int))] [u] q0 h0)
theorem WR:0<=(a:Int)/\(a:Int)<=(b:Int)/\(b:Int)<=(c:Int)/\d=Int.toNat (b:Int)-Int.toNat (a:Int)/\c<=100000/\e<i->a<=b:=fun h0=>ah (.le B C) [(.d (.Le n0 (.c B)) (.d (.Le (.c B) (.c C)) (.d (.Le (.c C) (.c D)) (.d (.eq E H) (.d (.le D aJ) (.lt F G))))))] [[1,0,1]] rfl [a,b,c,d,e,i,((Int.toNat ((b:Nat):Int))-(Int.toNat ((a:Nat):Int))),(Int.toNat ((a:Nat):Int)),(Int.toNat ((b:Nat):Int))] [] h0
theorem WS:0<=(c:Int)/\(c:Int)<=(a:Int)/\(a:Int)<=(b:Int)/\d=Int.toNat (a:Int)-Int.toNat (c:Int)/\b<=100000/\e<i->a<=b:=fun h0=>ah (.le B C) [(.d (.Le n0 (.c D)) (.d (.Le (.c D) (.c B)) (.d (.Le (.c B) (.c C)) (.d (.eq E H) (.d (.le C aJ) (.lt F G))))))] [[1,0,0,1]] rfl [a,b,c,d,e,i,((Int.toNat ((a:Nat):Int))-(Int.toNat ((c:Nat):Int))),(Int.toNat ((c:Nat):Int)),(Int.toNat ((a:Nat):Int))] [] h0
theorem WT:¬(a=b)->a+1≠b+1:=fun h0=>(Ha h0).elim (fun q0=>ah (.no (.eq (.a B n1) (.a C n1))) [(.lt B C)] [[0,1,1]] rfl [a,b] [] q0) (fun q0=>ah (.no (.eq (.a B n1) (.a C n1))) [(.lt C B)] [[1,0,1]] rfl [a,b] [] q0)
theorem WU:b<=100->min a b<=99999:=fun h0=>(i_ a b).elim (fun q0=>ah (.le D (.n 99999)) [(.d (.le B C) (.eq D B)),(.le C eD)] [[1,1,1,0,1]] rfl [a,b,(min a b)] [] q0 h0) (fun q0=>ah (.le D (.n 99999)) [(.d (.lt C B) (.eq D C)),(.le C eD)] [[1,0,1,0,1]] rfl [a,b,(min a b)] [] q0 h0)
theorem WV:b<=100*c->a<=100->a+b<=100*(c+1):=ah (.le (.a B C) (.m 100 (.a D n1))) [(.le C (.m 100 D)),(.le B eD)] [[1,1,1]] rfl [a,b,c] []
theorem WW:b<=100->min a b<=100:=fun h0=>(i_ a b).elim (fun q0=>ah (.le D eD) [(.d (.le B C) (.eq D B)),(.le C eD)] [[1,1,1,0,1]] rfl [a,b,(min a b)] [] q0 h0) (fun q0=>ah (.le D eD) [(.d (.lt C B) (.eq D C)),(.le C eD)] [[1,0,1,0,1]] rfl [a,b,(min a b)] [] q0 h0)
theorem WX:a<=100*c->c<=100->b<=100->a+b<=100000:=ah (.le (.a B C) aJ) [(.le B (.m 100 D)),(.le D eD),(.le C eD)] [[1,1,100,1]] rfl [a,b,c] []
theorem WY:10+(b:Int)=u->b<a->10<=u/\u<10+(a:Int):=ah (.d (.Le dZ B) (.Lt B (.a dZ (.c B)))) [(.Eq (.a dZ (.c C)) B),(.lt C B)] [[1,1,0,0,0,1],[1,0,1,1]] rfl [a,b] [u]
theorem WZ:10<=u/\u<10+(a:Int)->Int.toNat (u-10)<a:=fun h0=>(spT (u-(10:Int))).elim (fun q0=>ah (.lt C B) [(.Eq (.c C) (.s B dZ)),(.d (.Le dZ B) (.Lt B (.a dZ (.c B))))] [[1,1,0,0,1]] rfl [a,(Int.toNat (u-(10:Int)))] [u] q0 h0) (fun q0=>ah (.lt C B) [(.d (.Lt (.s B dZ) n0) (.eq C n0)),(.d (.Le dZ B) (.Lt B (.a dZ (.c B))))] [[0,1,0,0,1]] rfl [a,(Int.toNat (u-(10:Int)))] [u] q0 h0)
theorem W0:10<=u/\u<10+(a:Int)->10+((Int.toNat (u-10):Nat):Int)=u:=fun h0=>(spT (u-(10:Int))).elim (fun q0=>ah (.Eq (.a dZ (.c C)) B) [(.Eq (.c C) (.s B dZ)),(.d (.Le dZ B) (.Lt B (.a dZ (.c B))))] [[1,0,1],[1,1]] rfl [a,(Int.toNat (u-(10:Int)))] [u] q0 h0) (fun q0=>ah (.Eq (.a dZ (.c C)) B) [(.d (.Lt (.s B dZ) n0) (.eq C n0)),(.d (.Le dZ B) (.Lt B (.a dZ (.c B))))] [[0,1,0,0,1],[0,1,0,0,1]] rfl [a,(Int.toNat (u-(10:Int)))] [u] q0 h0)
theorem W2:b<=6->min a b<=6:=fun h0=>(i_ a b).elim (fun q0=>ah (.le D (.n 6)) [(.d (.le B C) (.eq D B)),(.le C (.n 6))] [[1,1,1,0,1]] rfl [a,b,(min a b)] [] q0 h0) (fun q0=>ah (.le D (.n 6)) [(.d (.lt C B) (.eq D C)),(.le C (.n 6))] [[1,0,1,0,1]] rfl [a,b,(min a b)] [] q0 h0)
theorem W3:b<=c->c<=6->a<=b->a<=100000:=ah (.le B aJ) [(.le C D),(.le D (.n 6)),(.le B C)] [[1,1,1,1]] rfl [a,b,c] []
theorem W4:a<=0->a+1<=10:=ah (.le (.a B n1) dZ) [(.le B n0)] [[1,1]] rfl [a] []
theorem W5:a<=4000->a+1<4096:=ah (.lt (.a B n1) (.n 4096)) [(.le B (.n 4000))] [[1,1]] rfl [a] []
theorem W6:b<64->a=b->a<64:=ah (.lt B (.n 64)) [(.lt C (.n 64)),(.eq B C)] [[1,1,1]] rfl [a,b] []
theorem W7:b<=a/\a<=b+c->a=b+(c-(b+c-a)):=fun h0=>(spS (b+c) a).elim (fun q0=>(spS c ((b+c)-a)).elim (fun q1=>ah (.eq B (.a C E)) [(.eq (.a E F) D),(.eq (.a F B) (.a C D)),(.d (.le C B) (.le B (.a C D)))] [[1,1,0,0,1],[1,0,1,1]] rfl [a,b,c,(c-((b+c)-a)),((b+c)-a)] [] q1 q0 h0) (fun q1=>ah (.eq B (.a C E)) [(.d (.lt D F) (.eq E n0)),(.eq (.a F B) (.a C D)),(.d (.le C B) (.le B (.a C D)))] [[1,0,1,0,0,0,1],[0,1,0,0,1,0,1]] rfl [a,b,c,(c-((b+c)-a)),((b+c)-a)] [] q1 q0 h0)) (fun q0=>ah (.eq B (.a C E)) [(.d (.lt (.a C D) B) (.eq F n0)),(.d (.le C B) (.le B (.a C D)))] [[0,1,0,0,0,1],[0,1,0,0,0,1]] rfl [a,b,c,(c-((b+c)-a)),((b+c)-a)] [] q0 h0)
theorem W8:a<=100*c->c<=10->b<=100->a+b<=100000:=ah (.le (.a B C) aJ) [(.le B (.m 100 D)),(.le D dZ),(.le C eD)] [[1,1,100,1]] rfl [a,b,c] []
theorem W9:c=a+1->c<b->a<b:=ah (.lt B C) [(.eq D (.a B n1)),(.lt D C)] [[1,0,1,1]] rfl [a,b,c] []
theorem W_:b<=10->a<=100*b->a<=4000:=ah (.le B (.n 4000)) [(.le C dZ),(.le B (.m 100 C))] [[1,100,1]] rfl [a,b] []
theorem Xa:c=a+1->c<d->b=d+1->a<b:=ah (.lt B C) [(.eq D (.a B n1)),(.lt D E),(.eq C (.a E n1))] [[1,0,1,1,0,1]] rfl [a,b,c,d] []
theorem Xb:c=a+1->c<d->e=d+1->e<=b->a<b:=ah (.lt B C) [(.eq D (.a B n1)),(.lt D E),(.eq F (.a E n1)),(.le F C)] [[1,0,1,1,0,1,1]] rfl [a,b,c,d,e] []
theorem Xc:b<=100->a=b->1+(a-2)<=100000:=fun h0 h1=>(spS a 2).elim (fun q0=>ah (.le (.a n1 D) aJ) [(.eq (.a D n2) B),(.le C eD),(.eq B C)] [[1,1,0,1,1]] rfl [a,b,(a-2)] [] q0 h0 h1) (fun q0=>ah (.le (.a n1 D) aJ) [(.d (.lt B n2) (.eq D n0)),(.le C eD),(.eq B C)] [[1,0,1]] rfl [a,b,(a-2)] [] q0 h0 h1)
theorem Xd:b<=100->a=b->1+(a-3)<=100000:=fun h0 h1=>(spS a 3).elim (fun q0=>ah (.le (.a n1 D) aJ) [(.eq (.a D n3) B),(.le C eD),(.eq B C)] [[1,1,0,1,1]] rfl [a,b,(a-3)] [] q0 h0 h1) (fun q0=>ah (.le (.a n1 D) aJ) [(.d (.lt B n3) (.eq D n0)),(.le C eD),(.eq B C)] [[1,0,1]] rfl [a,b,(a-3)] [] q0 h0 h1)
theorem Xe:a+16*9+12<b->a+40<b:=ah (.lt (.a B (.n 40)) C) [(.lt (.a (.a B (.m 16 (.n 9))) fO) C)] [[1,1]] rfl [a,b] []
theorem Xf:0<=u->0<=v->0<=u+v:=ah (.Le n0 (.a B C)) [(.Le n0 B),(.Le n0 C)] [[1,1,1]] rfl [] [u,v]
theorem Xg:0<=u->0<=w->v=u+w->0<=u/\u<=v:=ah (.d (.Le n0 B) (.Le B C)) [(.Le n0 B),(.Le n0 D),(.Eq C (.a B D))] [[1,1],[1,0,1,0,1]] rfl [] [u,v,w]
theorem Xh:0<=v->u<=u+v:=ah (.Le B (.a B C)) [(.Le n0 C)] [[1,1]] rfl [] [u,v]
theorem Xi:0<=v->u<=w->u<=v+w:=ah (.Le B (.a C D)) [(.Le n0 C),(.Le B D)] [[1,1,1]] rfl [] [u,v,w]
theorem Xj:w<2 ^ 62->0<=v/\v<=w->u<=w->0<=u->(-(2 ^ 63)<=u/\u<2 ^ 63)/\ -(2 ^ 63)<=v/\v<2 ^ 63:=ah (.d (.d (.Le (.s n0 bw) B) (.Lt B bw)) (.d (.Le (.s n0 bw) C) (.Lt C bw))) [(.Lt D aZ),(.d (.Le n0 C) (.Le C D)),(.Le B D),(.Le n0 B)] [[1,0,0,0,0,1],[1,1,0,0,1],[1,0,1],[1,1,0,1]] rfl [] [u,v,w]
theorem Xk:u<=255*(b:Int)->a<2 ^ 8->(a:Int)+u<=255*((b+1:Nat):Int):=ah (.Le (.a (.c B) B) (.m 255 (.c (.a C n1)))) [(.Le B (.m 255 (.c C))),(.lt B iD)] [[1,1,1]] rfl [a,b] [u]
theorem Xl:a<=100000->u<=255*(a:Int)->u<2 ^ 62:=ah (.Lt B aZ) [(.le B aJ),(.Le B (.m 255 (.c B)))] [[1,255,1]] rfl [a] [u]
theorem Xm:min 6 a<=6:=(i_ 6 a).elim (fun q0=>ah (.le C (.n 6)) [(.d (.le (.n 6) B) (.eq C (.n 6)))] [[1,0,1]] rfl [a,(min 6 a)] [] q0) (fun q0=>ah (.le C (.n 6)) [(.d (.lt B (.n 6)) (.eq C B))] [[1,1,1]] rfl [a,(min 6 a)] [] q0)
theorem Xn:3<a->(a:Int)>3:=ah (.Lt n3 (.c B)) [(.lt n3 B)] [[1,1]] rfl [a] []
theorem Xo:¬(3<a)->¬((a:Int)>3):=ah (.no (.Lt n3 (.c B))) [(.no (.lt n3 B))] [[1,1]] rfl [a] []
theorem Xp:b<=6->a=b->a<=6:=ah (.le B (.n 6)) [(.le C (.n 6)),(.eq B C)] [[1,1,1]] rfl [a,b] []
theorem Xq:a+3*2<b->a+1+3*1<b:=ah (.lt (.a (.a B n1) (.m 3 n1)) C) [(.lt (.a B (.m 3 n2)) C)] [[1,1]] rfl [a,b] []
theorem Xr:a+16*2+12<b->a+1+28<b:=ah (.lt (.a (.a B n1) (.n 28)) C) [(.lt (.a (.a B (.m 16 n2)) fO) C)] [[1,1]] rfl [a,b] []
theorem Xs:0+1<=16777216+1:=ah (.le (.a n0 n1) (.a ei n1)) [] [[1]] rfl [] []
theorem Xu:a+16*(b+1)+12<c->a+1+16*b+12<c:=ah (.lt (.a (.a (.a B n1) (.m 16 C)) fO) D) [(.lt (.a (.a B (.m 16 (.a C n1))) fO) D)] [[1,1]] rfl [a,b,c] []
theorem Xv:a<b+1+1->a<b\/a=b\/a=b+1:=by lia
theorem Xw:a<b->¬(a=b+1):=ah (.no (.eq B (.a C n1))) [(.lt B C)] [[0,1,1]] rfl [a,b] []
theorem Xx:a<b->¬(a=b):=ah (.no (.eq B C)) [(.lt B C)] [[0,1,1]] rfl [a,b] []
theorem Xy:a<=a+1+1:=ah (.le B (.a (.a B n1) n1)) [] [[1]] rfl [a] []
theorem Xz:¬(a=a+1):=ah (.no (.eq B (.a B n1))) [] [[0,1]] rfl [a] []
theorem XA:b=a+2->a<=b:=ah (.le B C) [(.eq C (.a B n2))] [[1,0,1]] rfl [a,b] []
theorem XB:b<=c->¬(c<=a)->b<=a->a-b<=c-b:=fun h0 h1 h2=>(spS a b).elim (fun q0=>(spS c b).elim (fun q1=>ah (.le E F) [(.eq (.a F C) D),(.eq (.a E C) B),(.le C D),(.no (.le D B)),(.le C B)] [[1,0,1,1,0,0,1]] rfl [a,b,c,(a-b),(c-b)] [] q1 q0 h0 h1 h2) (fun q1=>ah (.le E F) [(.d (.lt D C) (.eq F n0)),(.eq (.a E C) B),(.le C D),(.no (.le D B)),(.le C B)] [[0,1,0,0,0,0,1]] rfl [a,b,c,(a-b),(c-b)] [] q1 q0 h0 h1 h2)) (fun q0=>ah (.le E F) [(.d (.lt B C) (.eq E n0)),(.le C D),(.no (.le D B)),(.le C B)] [[0,1,0,0,0,0,1]] rfl [a,b,c,(a-b),(c-b)] [] q0 h0 h1 h2)
theorem XC:min (a-b) (c-b)<=c:=(i_ (a-b) (c-b)).elim (fun q0=>(spS c b).elim (fun q1=>ah (.le E D) [(.eq (.a G C) D),(.d (.le F G) (.eq E F))] [[1,1,0,1,1,0,0,1]] rfl [a,b,c,(min (a-b) (c-b)),(a-b),(c-b)] [] q1 q0) (fun q1=>ah (.le E D) [(.d (.lt D C) (.eq G n0)),(.d (.le F G) (.eq E F))] [[1,0,1,0,1,1,0,0,0,1]] rfl [a,b,c,(min (a-b) (c-b)),(a-b),(c-b)] [] q1 q0)) (fun q0=>(spS c b).elim (fun q1=>ah (.le E D) [(.eq (.a G C) D),(.d (.lt G F) (.eq E G))] [[1,1,0,0,1,0,0,1]] rfl [a,b,c,(min (a-b) (c-b)),(a-b),(c-b)] [] q1 q0) (fun q1=>ah (.le E D) [(.d (.lt D C) (.eq G n0)),(.d (.lt G F) (.eq E G))] [[1,0,1,0,0,1,0,0,0,1]] rfl [a,b,c,(min (a-b) (c-b)),(a-b),(c-b)] [] q1 q0))
theorem XD:u<256->¬(u>=256):=ah (.no (.Le iD B)) [(.Lt B iD)] [[1,1]] rfl [] [u]
theorem XE:a<=100000->a<=100000:=ah (.le B aJ) [(.le B aJ)] [[1,1]] rfl [a] []
theorem XF:c=b+2->a<=c->c<=a+2->a=b\/a=b+1\/a=b+2:=by lia
theorem XG:b=c+2->a=c->a+2-b=0:=fun h0 h1=>(spS (a+2) b).elim (fun q0=>ah (.eq E n0) [(.eq (.a E C) (.a B n2)),(.eq C (.a D n2)),(.eq B D)] [[1,0,0,0,0,0,0,0,0,0,1],[1,1,0,0,1,1]] rfl [a,b,c,((a+2)-b)] [] q0 h0 h1) (fun q0=>ah (.eq E n0) [(.d (.lt (.a B n2) C) (.eq E n0)),(.eq C (.a D n2)),(.eq B D)] [[0,1,0,0,1,0,0,1],[0,1,0,0,1,0,0,1]] rfl [a,b,c,((a+2)-b)] [] q0 h0 h1)
theorem XH:b=c+2->a=c+1->a+2-b=1:=fun h0 h1=>(spS (a+2) b).elim (fun q0=>ah (.eq E n1) [(.eq (.a E C) (.a B n2)),(.eq C (.a D n2)),(.eq B (.a D n1))] [[1,0,1,1,0,0,1],[1,1,0,0,1,1]] rfl [a,b,c,((a+2)-b)] [] q0 h0 h1) (fun q0=>ah (.eq E n1) [(.d (.lt (.a B n2) C) (.eq E n0)),(.eq C (.a D n2)),(.eq B (.a D n1))] [[0,1,0,0,1,0,0,1],[0,1,0,0,1,0,0,1]] rfl [a,b,c,((a+2)-b)] [] q0 h0 h1)
theorem XI:b=c+2->a=c+2->a+2-b=2:=fun h0 h1=>(spS (a+2) b).elim (fun q0=>ah (.eq E n2) [(.eq (.a E C) (.a B n2)),(.eq C (.a D n2)),(.eq B (.a D n2))] [[1,0,1,1,0,0,1],[1,1,0,0,1,1]] rfl [a,b,c,((a+2)-b)] [] q0 h0 h1) (fun q0=>ah (.eq E n2) [(.d (.lt (.a B n2) C) (.eq E n0)),(.eq C (.a D n2)),(.eq B (.a D n2))] [[0,1,0,0,1,0,0,1],[0,1,0,0,1,0,0,1]] rfl [a,b,c,((a+2)-b)] [] q0 h0 h1)
theorem XJ:b<=10->a<=b->a<=10:=ah (.le B dZ) [(.le C dZ),(.le B C)] [[1,1,1]] rfl [a,b] []
theorem XK:b<=5->a=b->u=1/\1<b->7+7*min 2 a+7*(a-2)<=42:=fun h0 h1 h2=>(i_ 2 a).elim (fun q0=>(spS a 2).elim (fun q1=>ah (.le (.a (.a n7 (.m 7 D)) (.m 7 E)) (.n 42)) [(.eq (.a E n2) B),(.d (.le n2 B) (.eq D n2)),(.le C n5),(.eq B C),(.d (.Eq B n1) (.lt n1 C))] [[1,7,0,0,7,0,7,7]] rfl [a,b,(min 2 a),(a-2)] [u] q1 q0 h0 h1 h2) (fun q1=>ah (.le (.a (.a n7 (.m 7 D)) (.m 7 E)) (.n 42)) [(.d (.lt B n2) (.eq E n0)),(.d (.le n2 B) (.eq D n2)),(.le C n5),(.eq B C),(.d (.Eq B n1) (.lt n1 C))] [[1,0,7,0,0,7]] rfl [a,b,(min 2 a),(a-2)] [u] q1 q0 h0 h1 h2)) (fun q0=>ah (.le (.a (.a n7 (.m 7 D)) (.m 7 E)) (.n 42)) [(.d (.lt B n2) (.eq D B)),(.le C n5),(.eq B C),(.d (.Eq B n1) (.lt n1 C))] [[0,1,0,0,0,0,1,0,0,1]] rfl [a,b,(min 2 a),(a-2)] [u] q0 h0 h1 h2)
theorem XM:b<=5->a=b->u=2/\2<b->7+7*min 3 a+7*(a-3)<=42:=fun h0 h1 h2=>(i_ 3 a).elim (fun q0=>(spS a 3).elim (fun q1=>ah (.le (.a (.a n7 (.m 7 D)) (.m 7 E)) (.n 42)) [(.eq (.a E n3) B),(.d (.le n3 B) (.eq D n3)),(.le C n5),(.eq B C),(.d (.Eq B n2) (.lt n2 C))] [[1,7,0,0,7,0,7,7]] rfl [a,b,(min 3 a),(a-3)] [u] q1 q0 h0 h1 h2) (fun q1=>ah (.le (.a (.a n7 (.m 7 D)) (.m 7 E)) (.n 42)) [(.d (.lt B n3) (.eq E n0)),(.d (.le n3 B) (.eq D n3)),(.le C n5),(.eq B C),(.d (.Eq B n2) (.lt n2 C))] [[1,0,7,0,0,7]] rfl [a,b,(min 3 a),(a-3)] [u] q1 q0 h0 h1 h2)) (fun q0=>ah (.le (.a (.a n7 (.m 7 D)) (.m 7 E)) (.n 42)) [(.d (.lt B n3) (.eq D B)),(.le C n5),(.eq B C),(.d (.Eq B n2) (.lt n2 C))] [[0,1,0,0,0,0,1,0,0,1]] rfl [a,b,(min 3 a),(a-3)] [u] q0 h0 h1 h2)
theorem XN:b<=5->a=b->7*a<=42:=ah (.le (.m 7 B) (.n 42)) [(.le C n5),(.eq B C)] [[1,7,7]] rfl [a,b] []
theorem XO:a<=5->b<=42->4+(4+(1+(1+a+(8+(4+(1+b))))))<=148:=ah (.le (.a n4 (.a n4 (.a n1 (.a (.a n1 B) (.a n8 (.a n4 (.a n1 C))))))) fW) [(.le B n5),(.le C (.n 42))] [[1,1,1]] rfl [a,b] []
theorem XQ:0<=u/\u<3->0<=1+u/\1+u<2 ^ 32:=ah (.d (.Le n0 (.a n1 B)) (.Lt (.a n1 B) c6)) [(.d (.Le n0 B) (.Lt B n3))] [[1,1],[1,0,1]] rfl [] [u]
theorem XR:c=a+2->d=c->e=d->b=e->a<b:=ah (.lt B C) [(.eq D (.a B n2)),(.eq E D),(.eq F E),(.eq C F)] [[1,0,1,0,1,0,1,0,1]] rfl [a,b,c,d,e] []
theorem XS:c=a+2->d=c->e=d->i=e->b=i->a<b:=ah (.lt B C) [(.eq D (.a B n2)),(.eq E D),(.eq F E),(.eq G F),(.eq C G)] [[1,0,1,0,1,0,1,0,1,0,1]] rfl [a,b,c,d,e,i] []
theorem XT:c=a+2->d=c->e=d->i=e->j=i->b=j->a<b:=ah (.lt B C) [(.eq D (.a B n2)),(.eq E D),(.eq F E),(.eq G F),(.eq H G),(.eq C H)] [[1,0,1,0,1,0,1,0,1,0,1,0,1]] rfl [a,b,c,d,e,i,j] []
theorem XU:c=a+2->d=c->e=d->i=e->j=i->k=j->b=k->a<b:=ah (.lt B C) [(.eq D (.a B n2)),(.eq E D),(.eq F E),(.eq G F),(.eq H G),(.eq J H),(.eq C J)] [[1,0,1,0,1,0,1,0,1,0,1,0,1,0,1]] rfl [a,b,c,d,e,i,j,k] []
theorem XW:c=a+2->d=c->e=d->i=e->j=i->k=j->l=k->b=l->a<b:=ah (.lt B C) [(.eq D (.a B n2)),(.eq E D),(.eq F E),(.eq G F),(.eq H G),(.eq J H),(.eq K J),(.eq C K)] [[1,0,1,0,1,0,1,0,1,0,1,0,1,0,1,0,1]] rfl [a,b,c,d,e,i,j,k,l] []
theorem XX:c=a+2->d=c->e=d->i=e->j=i->k=j->l=k->m=l->b=m->a<b:=ah (.lt B C) [(.eq D (.a B n2)),(.eq E D),(.eq F E),(.eq G F),(.eq H G),(.eq J H),(.eq K J),(.eq L K),(.eq C L)] [[1,0,1,0,1,0,1,0,1,0,1,0,1,0,1,0,1,0,1]] rfl [a,b,c,d,e,i,j,k,l,m] []
theorem XY:c=a+2->d=c->e=d->i=e->j=i->k=j->l=k->m=l->n=m->b=n->a<b:=ah (.lt B C) [(.eq D (.a B n2)),(.eq E D),(.eq F E),(.eq G F),(.eq H G),(.eq J H),(.eq K J),(.eq L K),(.eq v10 L),(.eq C v10)] [[1,0,1,0,1,0,1,0,1,0,1,0,1,0,1,0,1,0,1,0,1]] rfl [a,b,c,d,e,i,j,k,l,m,n] []
theorem XZ:c=a+2->d=c->e=d->i=e->j=i->k=j->l=k->m=l->n=m->o=n->b=o->a<b:=ah (.lt B C) [(.eq D (.a B n2)),(.eq E D),(.eq F E),(.eq G F),(.eq H G),(.eq J H),(.eq K J),(.eq L K),(.eq v10 L),(.eq v11 v10),(.eq C v11)] [[1,0,1,0,1,0,1,0,1,0,1,0,1,0,1,0,1,0,1,0,1,0,1]] rfl [a,b,c,d,e,i,j,k,l,m,n,o] []
theorem X0:c=a+2->d=c->e=d->i=e->j=i->k=j->l=k->m=l->n=m->o=n->p=o->b=p->a+1<b:=ah (.lt (.a B n1) C) [(.eq D (.a B n2)),(.eq E D),(.eq F E),(.eq G F),(.eq H G),(.eq J H),(.eq K J),(.eq L K),(.eq v10 L),(.eq v11 v10),(.eq Pd v11),(.eq C Pd)] [[1,0,1,0,1,0,1,0,1,0,1,0,1,0,1,0,1,0,1,0,1,0,1,0,1]] rfl [a,b,c,d,e,i,j,k,l,m,n,o,p] []
theorem X1:c=a+2->d=c->e=d->i=e->j=i->k=j->l=k->m=l->n=m->o=n->p=o->b=p->a<=b:=ah (.le B C) [(.eq D (.a B n2)),(.eq E D),(.eq F E),(.eq G F),(.eq H G),(.eq J H),(.eq K J),(.eq L K),(.eq v10 L),(.eq v11 v10),(.eq Pd v11),(.eq C Pd)] [[1,0,1,0,1,0,1,0,1,0,1,0,1,0,1,0,1,0,1,0,1,0,1,0,1]] rfl [a,b,c,d,e,i,j,k,l,m,n,o,p] []
theorem X2:a+1<c->c<=b->a+1<b:=ah (.lt (.a B n1) C) [(.lt (.a B n1) D),(.le D C)] [[1,1,1]] rfl [a,b,c] []
theorem X3:a+1<b->a≠b+1:=ah (.no (.eq B (.a C n1))) [(.lt (.a B n1) C)] [[0,1,1]] rfl [a,b] []
theorem X8:a+1<b->a+1≠b+1:=ah (.no (.eq (.a B n1) (.a C n1))) [(.lt (.a B n1) C)] [[0,1,1]] rfl [a,b] []
theorem X9:c=a+2->b=c->a+1<b:=ah (.lt (.a B n1) C) [(.eq D (.a B n2)),(.eq C D)] [[1,0,1,0,1]] rfl [a,b,c] []
theorem X_:c=a+2->b=c->a<b+1:=ah (.lt B (.a C n1)) [(.eq D (.a B n2)),(.eq C D)] [[1,0,1,0,1]] rfl [a,b,c] []
theorem Yb:c=a+2->d=c->b=d+1->a<b:=ah (.lt B C) [(.eq D (.a B n2)),(.eq E D),(.eq C (.a E n1))] [[1,0,1,0,1,0,1]] rfl [a,b,c,d] []
theorem Yc:c=a+2->d=c->b=d+1->a+1<b:=ah (.lt (.a B n1) C) [(.eq D (.a B n2)),(.eq E D),(.eq C (.a E n1))] [[1,0,1,0,1,0,1]] rfl [a,b,c,d] []
theorem Yd:c=a+2->d=c->b=d+1->a<b+1:=ah (.lt B (.a C n1)) [(.eq D (.a B n2)),(.eq E D),(.eq C (.a E n1))] [[1,0,1,0,1,0,1]] rfl [a,b,c,d] []
theorem Ye:c=a+2->d=c->e=d+1->b=e+1->a<b:=ah (.lt B C) [(.eq D (.a B n2)),(.eq E D),(.eq F (.a E n1)),(.eq C (.a F n1))] [[1,0,1,0,1,0,1,0,1]] rfl [a,b,c,d,e] []
theorem Yg:c=a+2->d=c->e=d+1->i=e+1->b=i->a<b:=ah (.lt B C) [(.eq D (.a B n2)),(.eq E D),(.eq F (.a E n1)),(.eq G (.a F n1)),(.eq C G)] [[1,0,1,0,1,0,1,0,1,0,1]] rfl [a,b,c,d,e,i] []
theorem Yh:c=a+2->d=c->e=d+1->i=e+1->j=i->b=j->a<b:=ah (.lt B C) [(.eq D (.a B n2)),(.eq E D),(.eq F (.a E n1)),(.eq G (.a F n1)),(.eq H G),(.eq C H)] [[1,0,1,0,1,0,1,0,1,0,1,0,1]] rfl [a,b,c,d,e,i,j] []
theorem Yi:c=a+2->d=c->e=d+1->i=e+1->j=i->k=j->b=k->a+1<b/\a+2<b/\a+3<b:=ah (.d (.lt (.a B n1) C) (.d (.lt (.a B n2) C) (.lt (.a B n3) C))) [(.eq D (.a B n2)),(.eq E D),(.eq F (.a E n1)),(.eq G (.a F n1)),(.eq H G),(.eq J H),(.eq C J)] [[1,0,1,0,1,0,1,0,1,0,1,0,1,0,1],[1,0,1,0,1,0,1,0,1,0,1,0,1,0,1],[1,0,1,0,1,0,1,0,1,0,1,0,1,0,1]] rfl [a,b,c,d,e,i,j,k] []
theorem Yj:c=a+2->d=c->e=d+1->i=e+1->j=i->k=j->b=k->a<=b:=ah (.le B C) [(.eq D (.a B n2)),(.eq E D),(.eq F (.a E n1)),(.eq G (.a F n1)),(.eq H G),(.eq J H),(.eq C J)] [[1,0,1,0,1,0,1,0,1,0,1,0,1,0,1]] rfl [a,b,c,d,e,i,j,k] []
theorem Yk:c=a+2->d=c->b=d+1->a+2<b:=ah (.lt (.a B n2) C) [(.eq D (.a B n2)),(.eq E D),(.eq C (.a E n1))] [[1,0,1,0,1,0,1]] rfl [a,b,c,d] []
theorem Yl:c=a+2->d=c->b=d+1->a+3=b:=ah (.eq (.a B n3) C) [(.eq D (.a B n2)),(.eq E D),(.eq C (.a E n1))] [[1,1,0,1,0,1],[1,0,1,0,1,0,1]] rfl [a,b,c,d] []
theorem Ym:c=d+2->e=c->b=e+1->a<d->a<b:=ah (.lt B C) [(.eq D (.a E n2)),(.eq F D),(.eq C (.a F n1)),(.lt B E)] [[1,0,1,0,1,0,1,1]] rfl [a,b,c,d,e] []
theorem Yn:c=d+2->b=c->a<d->a<b:=ah (.lt B C) [(.eq D (.a E n2)),(.eq C D),(.lt B E)] [[1,0,1,0,1,1]] rfl [a,b,c,d] []
theorem Yo:b+1<=a->a-b=a-(b+1)+1:=fun h0=>(spS a b).elim (fun q0=>(spS a (b+1)).elim (fun q1=>ah (.eq D (.a E n1)) [(.eq (.a E (.a C n1)) B),(.eq (.a D C) B),(.le (.a C n1) B)] [[1,1,0,0,1],[1,0,1,1]] rfl [a,b,(a-b),(a-(b+1))] [] q1 q0 h0) (fun q1=>ah (.eq D (.a E n1)) [(.d (.lt B (.a C n1)) (.eq E n0)),(.eq (.a D C) B),(.le (.a C n1) B)] [[0,1,0,0,0,0,1],[0,1,0,0,0,0,1]] rfl [a,b,(a-b),(a-(b+1))] [] q1 q0 h0)) (fun q0=>ah (.eq D (.a E n1)) [(.d (.lt B C) (.eq D n0)),(.le (.a C n1) B)] [[0,1,0,0,1],[0,1,0,0,1]] rfl [a,b,(a-b),(a-(b+1))] [] q0 h0)
theorem Yp:(a:Int)*16+(b:Int)=((a*16+b:Nat):Int):=ah (.Eq (.a (.r (.c B) 16) (.c C)) (.c (.a (.r B 16) C))) [] [[1],[1]] rfl [a,b] []
theorem Yq:((a*16+b:Nat):Int)/16=(((a*16+b)/16:Nat):Int):=by lia
theorem Yr:((a*16+b:Nat):Int) % 16=(((a*16+b) % 16:Nat):Int):=by lia
theorem Ys:c=384->a*16+b<384->Int.toNat ((a:Int)*16+(b:Int))=a*16+b->u=(((a*16+b) % 16:Nat):Int)->0<=(a:Int)*16+(b:Int)/\(a:Int)*16+(b:Int)<(c:Int)/\c<=100000:=by lia
theorem Yt:((a:Int)+(b:Int)) % 256=(((a+b) % 256:Nat):Int):=by lia
theorem Yu:a*16+b<384->Int.toNat ((a:Int)*16+(b:Int))=a*16+b->u=(((a*16+b) % 16:Nat):Int)->(a*16+b)/16<24:=by lia
theorem Yv:Int.toNat ((a:Int)*16+(b:Int))=a*16+b->u=(((a*16+b) % 16:Nat):Int)->(a*16+b) % 16<16:=by lia
theorem Yw:u=(((a+b) % 256:Nat):Int)->(a+b) % 256<256:=by lia
theorem Yx:(a*16+b)/16*16+(a*16+b) % 16=a*16+b:=by lia
theorem Yy:0<=u/\u<4->u=((Int.toNat u:Nat):Int):=fun h0=>(spT u).elim (fun q0=>ah (.Eq B (.c B)) [(.Eq (.c B) B),(.d (.Le n0 B) (.Lt B n4))] [[1,1],[1,0,1]] rfl [(Int.toNat u)] [u] q0 h0) (fun q0=>ah (.Eq B (.c B)) [(.d (.Lt B n0) (.eq B n0)),(.d (.Le n0 B) (.Lt B n4))] [[0,1,0,0,1],[0,1,0,0,1]] rfl [(Int.toNat u)] [u] q0 h0)
theorem Yz:0<=u/\u<4->¬(u=3)->u=(a:Int)->a<3:=fun h0 h1 h2=>(spZ h1).elim (fun q0=>ah (.lt B n3) [(.Lt B n3),(.d (.Le n0 B) (.Lt B n4)),(.Eq B (.c B))] [[1,1,0,0,0,1]] rfl [a] [u] q0 h0 h2) (fun q0=>ah (.lt B n3) [(.Lt n3 B),(.d (.Le n0 B) (.Lt B n4)),(.Eq B (.c B))] [[0,1,0,1]] rfl [a] [u] q0 h0 h2)
theorem YA:b=3->a<3->a<b:=ah (.lt B C) [(.eq C n3),(.lt B n3)] [[1,0,1,1]] rfl [a,b] []
theorem YB:0<=u/\u<6->0<=10+u/\10+u<2 ^ 32:=ah (.d (.Le n0 (.a dZ B)) (.Lt (.a dZ B) c6)) [(.d (.Le n0 B) (.Lt B (.n 6)))] [[1,1],[1,0,1]] rfl [] [u]
theorem YC:0<=u/\u<6->a<3->(10<=10+u/\10+u<=15)/\a<3:=ah (.d (.d (.Le dZ (.a dZ B)) (.Le (.a dZ B) (.n 15))) (.lt B n3)) [(.d (.Le n0 B) (.Lt B (.n 6))),(.lt B n3)] [[1,1],[1,0,1],[1,0,0,1]] rfl [a] [u]
theorem YD:a<=a+3:=ah (.le B (.a B n3)) [] [[1]] rfl [a] []
theorem YE:4+a<=148->a<=100000:=ah (.le B aJ) [(.le (.a n4 B) fW)] [[1,1]] rfl [a] []
theorem YF:0<=u/\u<160->u=((Int.toNat u:Nat):Int):=fun h0=>(spT u).elim (fun q0=>ah (.Eq B (.c B)) [(.Eq (.c B) B),(.d (.Le n0 B) (.Lt B cM))] [[1,1],[1,0,1]] rfl [(Int.toNat u)] [u] q0 h0) (fun q0=>ah (.Eq B (.c B)) [(.d (.Lt B n0) (.eq B n0)),(.d (.Le n0 B) (.Lt B cM))] [[0,1,0,0,1],[0,1,0,0,1]] rfl [(Int.toNat u)] [u] q0 h0)
theorem YG:0<=u/\u<255->1+u=((Int.toNat (1+u):Nat):Int):=fun h0=>(spT ((1:Int)+u)).elim (fun q0=>ah (.Eq (.a n1 B) (.c B)) [(.Eq (.c B) (.a n1 B)),(.d (.Le n0 B) (.Lt B Ey))] [[1,1],[1,0,1]] rfl [(Int.toNat ((1:Int)+u))] [u] q0 h0) (fun q0=>ah (.Eq (.a n1 B) (.c B)) [(.d (.Lt (.a n1 B) n0) (.eq B n0)),(.d (.Le n0 B) (.Lt B Ey))] [[0,1,0,0,1],[0,1,0,0,1]] rfl [(Int.toNat ((1:Int)+u))] [u] q0 h0)
theorem YH:0<=u/\u<160->u=(a:Int)->a<160:=ah (.lt B cM) [(.d (.Le n0 B) (.Lt B cM)),(.Eq B (.c B))] [[1,0,1,0,1]] rfl [a] [u]
theorem YI:0<=u/\u<255->1+u=(a:Int)->1<=a/\a<=255:=ah (.d (.le n1 B) (.le B Ey)) [(.d (.Le n0 B) (.Lt B Ey)),(.Eq (.a n1 B) (.c B))] [[1,1,0,1],[1,0,1,0,1]] rfl [a] [u]
theorem YJ:4+b<=148->a=4+b->a<=148:=ah (.le B fW) [(.le (.a n4 C) fW),(.eq B (.a n4 C))] [[1,1,1]] rfl [a,b] []
theorem YK:0<=u/\u<5->u=0\/u=1\/u=2\/u=3\/u=4:=by lia
theorem YL:b=4+c->(a:Int)<16+(c:Int)->a<12+b:=ah (.lt B (.a fO C)) [(.eq C (.a n4 D)),(.Lt (.c B) (.a mu (.c D)))] [[1,0,1,1]] rfl [a,b,c] []
theorem YM:b=4+c->¬((a:Int)<16+(c:Int))->¬(a<12+b):=ah (.no (.lt B (.a fO C))) [(.eq C (.a n4 D)),(.no (.Lt (.c B) (.a mu (.c D))))] [[1,1,0,1]] rfl [a,b,c] []
theorem YN:63<a->63<(a:Int):=ah (.Lt (.n 63) (.c B)) [(.lt (.n 63) B)] [[1,1]] rfl [a] []
theorem YO:0<=u/\u<256->0<=17+u/\17+u<2 ^ 32:=ah (.d (.Le n0 (.a (.n 17) B)) (.Lt (.a (.n 17) B) c6)) [(.d (.Le n0 B) (.Lt B iD))] [[1,1],[1,0,1]] rfl [] [u]
theorem YQ:¬(v<=u)->u<=v:=ah (.Le B C) [(.no (.Le C B))] [[1,1]] rfl [] [u,v]
theorem YR:a=b+1->0<a:=ah (.lt n0 B) [(.eq B (.a C n1))] [[1,0,1,0,1]] rfl [a,b] []
theorem YS:a<=c-1->c=b+1->a<b+1:=fun h0 h1=>(spS c 1).elim (fun q0=>ah (.lt B (.a C n1)) [(.eq (.a E n1) D),(.le B E),(.eq D (.a C n1))] [[1,1,0,1,1]] rfl [a,b,c,(c-1)] [] q0 h0 h1) (fun q0=>ah (.lt B (.a C n1)) [(.d (.lt D n1) (.eq E n0)),(.le B E),(.eq D (.a C n1))] [[1,0,1,0,1,0,0,0,1]] rfl [a,b,c,(c-1)] [] q0 h0 h1)
theorem YT:b=c+1->a<c+1->a<=b-1:=fun h0 h1=>(spS b 1).elim (fun q0=>ah (.le B E) [(.eq (.a E n1) C),(.eq C (.a D n1)),(.lt B (.a D n1))] [[1,0,1,0,1,1]] rfl [a,b,c,(b-1)] [] q0 h0 h1) (fun q0=>ah (.le B E) [(.d (.lt C n1) (.eq E n0)),(.eq C (.a D n1)),(.lt B (.a D n1))] [[0,1,0,0,0,1,0,0,0,1]] rfl [a,b,c,(b-1)] [] q0 h0 h1)
theorem YU:a+b<=100000/\c<d->a+b<=16777216:=ah (.le (.a B C) ei) [(.d (.le (.a B C) aJ) (.lt D E))] [[1,1]] rfl [a,b,c,d] []
theorem YV:a+1<b+1->a<b:=ah (.lt B C) [(.lt (.a B n1) (.a C n1))] [[1,1]] rfl [a,b] []
theorem YW:b<=100000->a<b->(a:Int)<2 ^ 63-1:=ah (.Lt (.c B) (.s bw n1)) [(.le C aJ),(.lt B C)] [[1,1,1]] rfl [a,b] []
theorem YX:a+b=b+a:=ah (.eq (.a B C) (.a C B)) [] [[1],[1]] rfl [a,b] []
theorem YY:1+(4+(1+(1+7*a)))=7+7*a:=ah (.eq (.a n1 (.a n4 (.a n1 (.a n1 (.m 7 B))))) (.a n7 (.m 7 B))) [] [[1],[1]] rfl [a] []
theorem YZ:a<=4000->a<=4999:=ah (.le B (.n 4999)) [(.le B (.n 4000))] [[1,1]] rfl [a] []
theorem Y0:a<=4000->a<=4995:=ah (.le B (.n 4995)) [(.le B (.n 4000))] [[1,1]] rfl [a] []
theorem Y1:a<=4000->a<=4994:=ah (.le B (.n 4994)) [(.le B (.n 4000))] [[1,1]] rfl [a] []
theorem Y2:b<=d->a+3*d<c->a+3*b<c:=ah (.lt (.a B (.m 3 C)) D) [(.le C E),(.lt (.a B (.m 3 E)) D)] [[1,3,1]] rfl [a,b,c,d] []
theorem Y3:b<=d->a+16*d+12<c->a+16*b+12<c:=ah (.lt (.a (.a B (.m 16 C)) fO) D) [(.le C E),(.lt (.a (.a B (.m 16 E)) fO) D)] [[1,16,1]] rfl [a,b,c,d] []
theorem Y4:a+16*(b+1)+12<c->a+3+16*b+12<c:=ah (.lt (.a (.a (.a B n3) (.m 16 C)) fO) D) [(.lt (.a (.a B (.m 16 (.a C n1))) fO) D)] [[1,1]] rfl [a,b,c] []
theorem Y5:0<=u->Int.toNat u=a->u=(a:Int):=fun h0 h1=>(spT u).elim (fun q0=>ah (.Eq B (.c B)) [(.Eq (.c C) B),(.Le n0 B),(.eq C B)] [[1,1,0,0,0,1],[1,0,1,0,1]] rfl [a,(Int.toNat u)] [u] q0 h0 h1) (fun q0=>ah (.Eq B (.c B)) [(.d (.Lt B n0) (.eq C n0)),(.Le n0 B),(.eq C B)] [[0,1,0,0,1],[0,1,0,0,1]] rfl [a,(Int.toNat u)] [u] q0 h0 h1)
theorem Y6:0<=(a:Int)-> -(2 ^ 62)<=(a:Int):=ah (.Le (.s n0 aZ) (.c B)) [(.Le n0 (.c B))] [[1,1]] rfl [a] []
theorem Y7:(a:Int)<2 ^ 60->(a:Int)<2 ^ 62:=ah (.Lt (.c B) aZ) [(.Lt (.c B) bU)] [[1,1]] rfl [a] []
theorem Y8:0+(a:Int)*1=(a:Int):=ah (.Eq (.a n0 (.r (.c B) 1)) (.c B)) [] [[1],[1]] rfl [a] []
theorem Y9:0<a->(0<= -1+(a:Int)/\ -1+(a:Int)<(a:Int))/\Int.toNat (-1+(a:Int))=a-1:=fun h0=>(spS a 1).elim (fun q0=>(spT ((-(1:Int))+((a:Nat):Int))).elim (fun q1=>ah (.d (.d (.Le n0 (.a (.s n0 n1) (.c B))) (.Lt (.a (.s n0 n1) (.c B)) (.c B))) (.eq C D)) [(.Eq (.c C) (.a (.s n0 n1) (.c B))),(.eq (.a D n1) B),(.lt n0 B)] [[1,0,0,0,0,1],[1],[1,0,1,1],[1,1,0,0,1]] rfl [a,(Int.toNat ((-(1:Int))+((a:Nat):Int))),(a-1)] [] q1 q0 h0) (fun q1=>ah (.d (.d (.Le n0 (.a (.s n0 n1) (.c B))) (.Lt (.a (.s n0 n1) (.c B)) (.c B))) (.eq C D)) [(.d (.Lt (.a (.s n0 n1) (.c B)) n0) (.eq C n0)),(.eq (.a D n1) B),(.lt n0 B)] [[1,0,0,0,0,0,1],[1],[0,1,0,0,0,0,1],[1,0,1,0,0,0,0,0,0,1]] rfl [a,(Int.toNat ((-(1:Int))+((a:Nat):Int))),(a-1)] [] q1 q0 h0)) (fun q0=>ah (.d (.d (.Le n0 (.a (.s n0 n1) (.c B))) (.Lt (.a (.s n0 n1) (.c B)) (.c B))) (.eq C D)) [(.d (.lt B n1) (.eq D n0)),(.lt n0 B)] [[1,0,0,0,1],[1],[0,1,0,0,1],[0,1,0,0,1]] rfl [a,(Int.toNat ((-(1:Int))+((a:Nat):Int))),(a-1)] [] q0 h0)
theorem Y_:a<=100000->¬(a>16777216):=ah (.no (.lt ei B)) [(.le B aJ)] [[1,1]] rfl [a] []
theorem Za:a<=100000->¬((a:Int)=2 ^ 63-1):=ah (.no (.Eq (.c B) (.s bw n1))) [(.le B aJ)] [[0,1,1]] rfl [a] []
theorem Zb:a<=100000->Int.toNat (a:Int)<=100000:=fun h0=>(spT ((a:Nat):Int)).elim (fun q0=>ah (.le C aJ) [(.Eq (.c C) (.c B)),(.le B aJ)] [[1,1,0,1]] rfl [a,(Int.toNat ((a:Nat):Int))] [] q0 h0) (fun q0=>ah (.le C aJ) [(.d (.Lt (.c B) n0) (.eq C n0)),(.le B aJ)] [[0,1,0,0,0,1]] rfl [a,(Int.toNat ((a:Nat):Int))] [] q0 h0)
theorem Zc:(a:Int)>0->Int.toNat (a:Int)=a:=fun h0=>(spT ((a:Nat):Int)).elim (fun q0=>ah (.eq C B) [(.Eq (.c C) (.c B)),(.Lt n0 (.c B))] [[1,0,1],[1,1]] rfl [a,(Int.toNat ((a:Nat):Int))] [] q0 h0) (fun q0=>ah (.eq C B) [(.d (.Lt (.c B) n0) (.eq C n0)),(.Lt n0 (.c B))] [[0,1,0,0,1],[0,1,0,0,1]] rfl [a,(Int.toNat ((a:Nat):Int))] [] q0 h0)
theorem Zd:¬((a:Int)>0)->a=0:=ah (.eq B n0) [(.no (.Lt n0 (.c B)))] [[1,0,1],[1,1]] rfl [a] []
theorem Ze:c=a+2->d=c->b=d->a+1<b:=ah (.lt (.a B n1) C) [(.eq D (.a B n2)),(.eq E D),(.eq C E)] [[1,0,1,0,1,0,1]] rfl [a,b,c,d] []
theorem Zf:c=a+2->d=c->b=d->a<b+1:=ah (.lt B (.a C n1)) [(.eq D (.a B n2)),(.eq E D),(.eq C E)] [[1,0,1,0,1,0,1]] rfl [a,b,c,d] []
theorem Zg:c=a+2->d=c->e=d->b=e+1->a<b:=ah (.lt B C) [(.eq D (.a B n2)),(.eq E D),(.eq F E),(.eq C (.a F n1))] [[1,0,1,0,1,0,1,0,1]] rfl [a,b,c,d,e] []
theorem Zh:c=a+2->d=c->e=d->i=e+1->b=i->a<=b:=ah (.le B C) [(.eq D (.a B n2)),(.eq E D),(.eq F E),(.eq G (.a F n1)),(.eq C G)] [[1,0,1,0,1,0,1,0,1,0,1]] rfl [a,b,c,d,e,i] []
theorem Zi:c=a+2->d=c->e=d->i=e+1->b=i->a+1<b/\a+2<b:=ah (.d (.lt (.a B n1) C) (.lt (.a B n2) C)) [(.eq D (.a B n2)),(.eq E D),(.eq F E),(.eq G (.a F n1)),(.eq C G)] [[1,0,1,0,1,0,1,0,1,0,1],[1,0,1,0,1,0,1,0,1,0,1]] rfl [a,b,c,d,e,i] []
theorem Zj:c=d+2->e=c->b=e->a<d->a<b:=ah (.lt B C) [(.eq D (.a E n2)),(.eq F D),(.eq C F),(.lt B E)] [[1,0,1,0,1,0,1,1]] rfl [a,b,c,d,e] []
theorem Zk:b<=77*c->c<=10->a<=50->4+(1+(1+a+(8+(4+(1+b)))))<=900:=ah (.le (.a n4 (.a n1 (.a (.a n1 B) (.a n8 (.a n4 (.a n1 C)))))) (.n 900)) [(.le C (.m 77 D)),(.le D dZ),(.le B (.n 50))] [[1,1,77,1]] rfl [a,b,c] []
theorem Zl:a<=900->a<=1000:=ah (.le B gK) [(.le B (.n 900))] [[1,1]] rfl [a] []
theorem Zm:0+4+1+1+a=0+4+1+(1+a):=ah (.eq (.a (.a (.a (.a n0 n4) n1) n1) B) (.a (.a (.a n0 n4) n1) (.a n1 B))) [] [[1],[1]] rfl [a] []
theorem Zn:0<=u/\u<2 ^ 60->0<=u:=ah (.Le n0 B) [(.d (.Le n0 B) (.Lt B bU))] [[1,1]] rfl [] [u]
theorem Zo:0<=u/\u<2 ^ 60->u<256 ^ 8:=ah (.Lt B (.n 18446744073709551616)) [(.d (.Le n0 B) (.Lt B bU))] [[1,0,1]] rfl [] [u]
theorem Zp:0<=u/\u<2 ^ 60->u<2 ^ 60:=ah (.Lt B bU) [(.d (.Le n0 B) (.Lt B bU))] [[1,0,1]] rfl [] [u]
theorem Zq:a+1<c->c<=b->a<=b:=ah (.le B C) [(.lt (.a B n1) D),(.le D C)] [[1,1,1]] rfl [a,b,c] []
theorem Zr:a+1<c->c<=b->a<=b+1:=ah (.le B (.a C n1)) [(.lt (.a B n1) D),(.le D C)] [[1,1,1]] rfl [a,b,c] []
theorem Zs:a+1<c->c<=b->a<=b+1+2:=ah (.le B (.a (.a C n1) n2)) [(.lt (.a B n1) D),(.le D C)] [[1,1,1]] rfl [a,b,c] []
theorem Zt:c+1<d->d<=b->a<c->a<b:=ah (.lt B C) [(.lt (.a D n1) E),(.le E C),(.lt B D)] [[1,1,1,1]] rfl [a,b,c,d] []
theorem Zu:c+1<b->a<c->a<b:=ah (.lt B C) [(.lt (.a D n1) C),(.lt B D)] [[1,1,1]] rfl [a,b,c] []
theorem Zv:(a:Int)+((b:Int)*256+((c:Int)*65536+(d:Int)*16777216))=(a:Int)+(b:Int)*256+(c:Int)*65536+(d:Int)*16777216:=ah (.Eq (.a (.c B) (.a (.r (.c C) 256) (.a (.r (.c D) 65536) (.r (.c E) 16777216)))) (.a (.a (.a (.c B) (.r (.c C) 256)) (.r (.c D) 65536)) (.r (.c E) 16777216))) [] [[1],[1]] rfl [a,b,c,d] []
theorem Zw:a<2 ^ 8->b<2 ^ 8->c<2 ^ 8->d<2 ^ 8->0<=(a:Int)+(b:Int)*256+(c:Int)*65536+(d:Int)*16777216/\(a:Int)+(b:Int)*256+(c:Int)*65536+(d:Int)*16777216<2 ^ 32:=ah (.d (.Le n0 (.a (.a (.a (.c B) (.r (.c C) 256)) (.r (.c D) 65536)) (.r (.c E) 16777216))) (.Lt (.a (.a (.a (.c B) (.r (.c C) 256)) (.r (.c D) 65536)) (.r (.c E) 16777216)) c6)) [(.lt B iD),(.lt C iD),(.lt D iD),(.lt E iD)] [[1,0,0,0,0,1,256,65536,16777216],[1,1,256,65536,16777216]] rfl [a,b,c,d] []
theorem Zx:a=160->min 4 (a-8)=4:=fun h0=>(spS a 8).elim (fun q0=>(i_ 4 (a-8)).elim (fun q1=>ah (.eq C n4) [(.d (.le n4 D) (.eq C n4)),(.eq (.a D n8) B),(.eq B cM)] [[1,0,0,1],[1,0,1]] rfl [a,(min 4 (a-8)),(a-8)] [] q1 q0 h0) (fun q1=>ah (.eq C n4) [(.d (.lt D n4) (.eq C D)),(.eq (.a D n8) B),(.eq B cM)] [[0,1,0,0,0,1,0,1],[1,1,1]] rfl [a,(min 4 (a-8)),(a-8)] [] q1 q0 h0)) (fun q0=>ah (.eq C n4) [(.d (.lt B n8) (.eq D n0)),(.eq B cM)] [[0,1,0,0,0,1],[0,1,0,0,0,1]] rfl [a,(min 4 (a-8)),(a-8)] [] q0 h0)
theorem Zy:u<2 ^ 32->u<2 ^ 62:=ah (.Lt B aZ) [(.Lt B c6)] [[1,1]] rfl [] [u]
theorem Zz:8<=12+a:=ah (.le n8 (.a fO B)) [] [[1,1]] rfl [a] []
theorem ZA:12+a-8=4+a:=(spS (12+a) 8).elim (fun q0=>ah (.eq C (.a n4 B)) [(.eq (.a C n8) (.a fO B))] [[1,0,1],[1,1]] rfl [a,((12+a)-8)] [] q0) (fun q0=>ah (.eq C (.a n4 B)) [(.d (.lt (.a fO B) n8) (.eq C n0))] [[0,1,0,0,1],[0,1,0,0,1]] rfl [a,((12+a)-8)] [] q0)
theorem ZC:12<=12+a:=ah (.le fO (.a fO B)) [] [[1,1]] rfl [a] []
theorem ZD:12+a-12=a:=(spS (12+a) 12).elim (fun q0=>ah (.eq C B) [(.eq (.a C fO) (.a fO B))] [[1,0,1],[1,1]] rfl [a,((12+a)-12)] [] q0) (fun q0=>ah (.eq C B) [(.d (.lt (.a fO B) fO) (.eq C n0))] [[0,1,0,0,1],[0,1,0,0,1]] rfl [a,((12+a)-12)] [] q0)
theorem ZE:12+a<=160->min (4+a) b<=1000:=fun h0=>(i_ (4+a) b).elim (fun q0=>ah (.le D gK) [(.d (.le (.a n4 B) C) (.eq D (.a n4 B))),(.le (.a fO B) cM)] [[1,0,1,0,1]] rfl [a,b,(min (4+a) b)] [] q0 h0) (fun q0=>ah (.le D gK) [(.d (.lt C (.a n4 B)) (.eq D C)),(.le (.a fO B) cM)] [[1,1,1,0,1]] rfl [a,b,(min (4+a) b)] [] q0 h0)
theorem ZF:a=384->b<=14->min (10*16) (a-b*16)=160:=fun h0 h1=>(spS a (b*16)).elim (fun q0=>(i_ (10*16) (a-(b*16))).elim (fun q1=>ah (.eq D cM) [(.d (.le (.m 10 mu) E) (.eq D (.m 10 mu))),(.eq (.a E (.r C 16)) B),(.eq B gh),(.le C (.n 14))] [[1,0,0,1],[1,0,1]] rfl [a,b,(min (10*16) (a-(b*16))),(a-(b*16))] [] q1 q0 h0 h1) (fun q1=>ah (.eq D cM) [(.d (.lt E (.m 10 mu)) (.eq D E)),(.eq (.a E (.r C 16)) B),(.eq B gh),(.le C (.n 14))] [[0,1,0,0,0,1,0,1,16],[1,1,1]] rfl [a,b,(min (10*16) (a-(b*16))),(a-(b*16))] [] q1 q0 h0 h1)) (fun q0=>ah (.eq D cM) [(.d (.lt B (.r C 16)) (.eq E n0)),(.eq B gh),(.le C (.n 14))] [[0,1,0,0,0,1,16],[0,1,0,0,0,1,16]] rfl [a,b,(min (10*16) (a-(b*16))),(a-(b*16))] [] q0 h0 h1)
theorem ZG:c<=a->b+1<c/\d<c/\e<c->a≠b+1:=ah (.no (.eq B (.a C n1))) [(.le D B),(.d (.lt (.a C n1) D) (.d (.lt E D) (.lt F D)))] [[1,0,1,1]] rfl [a,b,c,d,e] []
theorem ZH:b=a+3->a<b:=ah (.lt B C) [(.eq C (.a B n3))] [[1,0,1]] rfl [a,b] []
theorem ZI:b=a+2->a<=b+1:=ah (.le B (.a C n1)) [(.eq C (.a B n2))] [[1,0,1]] rfl [a,b] []
theorem ZJ:b=a+2->a+1<b+1/\a+2<b+1:=ah (.d (.lt (.a B n1) (.a C n1)) (.lt (.a B n2) (.a C n1))) [(.eq C (.a B n2))] [[1,0,1],[1,0,1]] rfl [a,b] []
theorem ZK:0<b/\b<=8->c-a=b+d->a+b<=c:=fun h0 h1=>(spS c a).elim (fun q0=>ah (.le (.a B C) D) [(.eq (.a F B) D),(.d (.lt n0 C) (.le C n8)),(.eq F (.a C E))] [[1,1,0,0,0,0,1,0,0,0,1]] rfl [a,b,c,d,(c-a)] [] q0 h0 h1) (fun q0=>ah (.le (.a B C) D) [(.d (.lt D B) (.eq F n0)),(.d (.lt n0 C) (.le C n8)),(.eq F (.a C E))] [[0,0,1,0,1,0,0,1,0,0,0,1]] rfl [a,b,c,d,(c-a)] [] q0 h0 h1)
theorem ZL:u<2 ^ 60->u<2 ^ 62:=ah (.Lt B aZ) [(.Lt B bU)] [[1,1]] rfl [] [u]
theorem ZM:a<3->(a:Int)<2 ^ 60:=ah (.Lt (.c B) bU) [(.lt B n3)] [[1,1]] rfl [a] []
theorem ZN:a<256->(a:Int)<2 ^ 60:=ah (.Lt (.c B) bU) [(.lt B iD)] [[1,1]] rfl [a] []
theorem ZO:b=a->a+1+4+1+1=b+7+7*0:=ah (.eq (.a (.a (.a (.a B n1) n4) n1) n1) (.a (.a C n7) (.m 7 n0))) [(.eq C B)] [[1,1],[1,0,1]] rfl [a,b] []
theorem ZP:a=b+7+7*c->a+7=b+7+7*(c+1):=ah (.eq (.a B n7) (.a (.a C n7) (.m 7 (.a D n1)))) [(.eq B (.a (.a C n7) (.m 7 D)))] [[1,0,1],[1,1]] rfl [a,b,c] []
theorem ZQ:d=a->c=d+7+7*b->a+(7+7*b)=c:=ah (.eq (.a B (.a n7 (.m 7 C))) D) [(.eq E B),(.eq D (.a (.a E n7) (.m 7 C)))] [[1,1,0,1],[1,0,1,0,1]] rfl [a,b,c,d] []
theorem ZR:a<=b->a<=b+1+2:=ah (.le B (.a (.a C n1) n2)) [(.le B C)] [[1,1]] rfl [a,b] []
theorem ZS:a<=100000->(a:Int)<2 ^ 60:=ah (.Lt (.c B) bU) [(.le B aJ)] [[1,1]] rfl [a] []
theorem ZT:(a:Int)<256->a<256:=ah (.lt B iD) [(.Lt (.c B) iD)] [[1,1]] rfl [a] []
theorem ZU:c=b->a<=c->c<=a->a=b:=ah (.eq B C) [(.eq D C),(.le B D),(.le D B)] [[1,0,1,0,1],[1,1,0,1]] rfl [a,b,c] []
theorem ZV:c=b+1->a<=c->c<=a+1->a=b\/a=b+1:=by lia
theorem ZW:b=c+1->a=c->a+1-b=0:=fun h0 h1=>(spS (a+1) b).elim (fun q0=>ah (.eq E n0) [(.eq (.a E C) (.a B n1)),(.eq C (.a D n1)),(.eq B D)] [[1,0,0,0,0,0,0,0,0,0,1],[1,1,0,0,1,1]] rfl [a,b,c,((a+1)-b)] [] q0 h0 h1) (fun q0=>ah (.eq E n0) [(.d (.lt (.a B n1) C) (.eq E n0)),(.eq C (.a D n1)),(.eq B D)] [[0,1,0,0,1,0,0,1],[0,1,0,0,1,0,0,1]] rfl [a,b,c,((a+1)-b)] [] q0 h0 h1)
theorem ZX:b=c+1->a=c+1->a+1-b=1:=fun h0 h1=>(spS (a+1) b).elim (fun q0=>ah (.eq E n1) [(.eq (.a E C) (.a B n1)),(.eq C (.a D n1)),(.eq B (.a D n1))] [[1,0,1,1,0,0,1],[1,1,0,0,1,1]] rfl [a,b,c,((a+1)-b)] [] q0 h0 h1) (fun q0=>ah (.eq E n1) [(.d (.lt (.a B n1) C) (.eq E n0)),(.eq C (.a D n1)),(.eq B (.a D n1))] [[0,1,0,0,1,0,0,1],[0,1,0,0,1,0,0,1]] rfl [a,b,c,((a+1)-b)] [] q0 h0 h1)
theorem ZY:a+40<b->a+1<b:=ah (.lt (.a B n1) C) [(.lt (.a B (.n 40)) C)] [[1,1]] rfl [a,b] []
theorem ZZ:b<=100->a<=4000->a+1+b<=100000:=ah (.le (.a (.a B n1) C) aJ) [(.le C eD),(.le B (.n 4000))] [[1,1,1]] rfl [a,b] []
theorem Z0:a<=3000->a<=4999:=ah (.le B (.n 4999)) [(.le B (.n 3000))] [[1,1]] rfl [a] []
theorem Z1:a<=3000->a<=4995:=ah (.le B (.n 4995)) [(.le B (.n 3000))] [[1,1]] rfl [a] []
theorem Z2:a<=3000->a<=4994:=ah (.le B (.n 4994)) [(.le B (.n 3000))] [[1,1]] rfl [a] []
theorem Z3:c<=3000->a=c+7->b<=10->a+7*b<=4000:=ah (.le (.a B (.m 7 C)) (.n 4000)) [(.le D (.n 3000)),(.eq B (.a D n7)),(.le C dZ)] [[1,1,1,0,7]] rfl [a,b,c] []
theorem Z4:a<=10->7+7*a<=77:=ah (.le (.a n7 (.m 7 B)) (.n 77)) [(.le B dZ)] [[1,7]] rfl [a] []
theorem Z5:b<=c->a<=d->a+b<=c+d:=ah (.le (.a B C) (.a D E)) [(.le C D),(.le B E)] [[1,1,1]] rfl [a,b,c,d] []
theorem Z6:u<2 ^ 60->u<256 ^ 8:=ah (.Lt B (.n 18446744073709551616)) [(.Lt B bU)] [[1,1]] rfl [] [u]
theorem Z7:a<=50->4+(1+(1+a))<=5000:=ah (.le (.a n4 (.a n1 (.a n1 B))) (.n 5000)) [(.le B (.n 50))] [[1,1]] rfl [a] []
theorem Z8:a<=50->4+(1+(1+(a+8)))<=5000:=ah (.le (.a n4 (.a n1 (.a n1 (.a B n8)))) (.n 5000)) [(.le B (.n 50))] [[1,1]] rfl [a] []
theorem Z9:a<=50->4+(1+(1+(a+12)))<=5000:=ah (.le (.a n4 (.a n1 (.a n1 (.a B fO)))) (.n 5000)) [(.le B (.n 50))] [[1,1]] rfl [a] []
theorem Z_:a<=50->4+(1+(1+(a+13)))<=200:=ah (.le (.a n4 (.a n1 (.a n1 (.a B (.n 13))))) (.n 200)) [(.le B (.n 50))] [[1,1]] rfl [a] []
theorem aab:a<=200->b<=77*c->c<=10->a+b<=3000:=ah (.le (.a B C) (.n 3000)) [(.le B (.n 200)),(.le C (.m 77 D)),(.le D dZ)] [[1,1,1,77]] rfl [a,b,c] []
theorem aad:c<=10->a<=200->b<=77*c->a+b<=100000:=ah (.le (.a B C) aJ) [(.le D dZ),(.le B (.n 200)),(.le C (.m 77 D))] [[1,77,1,1]] rfl [a,b,c] []
theorem aae:c+1<d/\c+2<d->a<c->d<=b->a<b:=ah (.lt B C) [(.d (.lt (.a D n1) E) (.lt (.a D n2) E)),(.lt B D),(.le E C)] [[1,1,0,1,1]] rfl [a,b,c,d] []
theorem aag:c+1<b/\c+2<b->a<c->a<b:=ah (.lt B C) [(.d (.lt (.a D n1) C) (.lt (.a D n2) C)),(.lt B D)] [[1,1,0,1]] rfl [a,b,c] []
theorem aah:a<=100000->¬((a:Int)>2 ^ 63-34):=ah (.no (.Lt (.s bw (.n 34)) (.c B))) [(.le B aJ)] [[1,1]] rfl [a] []
theorem aai:a<=100000->Int.toNat (a:Int)<=16777216:=fun h0=>(spT ((a:Nat):Int)).elim (fun q0=>ah (.le C ei) [(.Eq (.c C) (.c B)),(.le B aJ)] [[1,1,0,1]] rfl [a,(Int.toNat ((a:Nat):Int))] [] q0 h0) (fun q0=>ah (.le C ei) [(.d (.Lt (.c B) n0) (.eq C n0)),(.le B aJ)] [[0,1,0,0,0,1]] rfl [a,(Int.toNat ((a:Nat):Int))] [] q0 h0)
theorem aaj:Int.toNat (a:Int)=a:=(spT ((a:Nat):Int)).elim (fun q0=>ah (.eq C B) [(.Eq (.c C) (.c B))] [[1,0,1],[1,1]] rfl [a,(Int.toNat ((a:Nat):Int))] [] q0) (fun q0=>ah (.eq C B) [(.d (.Lt (.c B) n0) (.eq C n0))] [[0,1,0,0,1],[0,1,0,0,1]] rfl [a,(Int.toNat ((a:Nat):Int))] [] q0)
theorem aak:a<=b+1->a+1<=b+1+1:=ah (.le (.a B n1) (.a (.a C n1) n1)) [(.le B (.a C n1))] [[1,1]] rfl [a,b] []
theorem aal:b<=100->a<=b+1->a<=1000:=ah (.le B gK) [(.le C eD),(.le B (.a C n1))] [[1,1,1]] rfl [a,b] []
theorem aam:a<=1000->a<=16777216+1:=ah (.le B (.a ei n1)) [(.le B gK)] [[1,1]] rfl [a] []
theorem aan:c+a<=b->¬((a:Int)>(b:Int)-(c:Int)):=ah (.no (.Lt (.s (.c C) (.c D)) (.c B))) [(.le (.a D B) C)] [[1,1]] rfl [a,b,c] []
theorem aao:a<=a+b:=ah (.le B (.a B C)) [] [[1,0,1]] rfl [a,b] []
theorem aap:a+b-a=b:=(spS (a+b) a).elim (fun q0=>ah (.eq D C) [(.eq (.a D B) (.a B C))] [[1,0,1],[1,1]] rfl [a,b,((a+b)-a)] [] q0) (fun q0=>ah (.eq D C) [(.d (.lt (.a B C) B) (.eq D n0))] [[0,1,0,0,0,1],[0,1,0,0,0,1]] rfl [a,b,((a+b)-a)] [] q0)
theorem aaq:u<=x->v<=w->u+v<=w+x:=ah (.Le (.a B C) (.a D E)) [(.Le B E),(.Le C D)] [[1,1,1]] rfl [] [u,v,w,x]
theorem aar:0<=(a:Int)+1:=ah (.Le n0 (.a (.c B) n1)) [] [[1,1]] rfl [a] []
theorem aas:b<=1000->a<b->(a:Int)+1<=1000:=ah (.Le (.a (.c B) n1) gK) [(.le C gK),(.lt B C)] [[1,1,1]] rfl [a,b] []
theorem aat:a<256->(a:Int)<=255:=ah (.Le (.c B) Ey) [(.lt B iD)] [[1,1]] rfl [a] []
theorem aau:4+4<=100000:=ah (.le (.a n4 n4) aJ) [] [[1]] rfl [] []
theorem aav:b<=a->a<=1000->0<=(a:Int)-(b:Int)/\(a:Int)-(b:Int)<=100000:=ah (.d (.Le n0 (.s (.c B) (.c C))) (.Le (.s (.c B) (.c C)) aJ)) [(.le C B),(.le B gK)] [[1,1],[1,0,1,0,1]] rfl [a,b] []
theorem aaw:a<=b->b<=1000->a+Int.toNat ((b:Int)-(a:Int))<=100000:=fun h0 h1=>(spT (((b:Nat):Int)-((a:Nat):Int))).elim (fun q0=>ah (.le (.a B D) aJ) [(.Eq (.c D) (.s (.c C) (.c B))),(.le B C),(.le C gK)] [[1,1,0,0,1]] rfl [a,b,(Int.toNat (((b:Nat):Int)-((a:Nat):Int)))] [] q0 h0 h1) (fun q0=>ah (.le (.a B D) aJ) [(.d (.Lt (.s (.c C) (.c B)) n0) (.eq D n0)),(.le B C),(.le C gK)] [[0,1,0,0,1]] rfl [a,b,(Int.toNat (((b:Nat):Int)-((a:Nat):Int)))] [] q0 h0 h1)
theorem aax:b<=a->Int.toNat ((a:Int)-(b:Int))=a-b:=fun h0=>(spS a b).elim (fun q0=>(spT (((a:Nat):Int)-((b:Nat):Int))).elim (fun q1=>ah (.eq D E) [(.Eq (.c D) (.s (.c B) (.c C))),(.eq (.a E C) B),(.le C B)] [[1,0,1,1],[1,1,0,0,1]] rfl [a,b,(Int.toNat (((a:Nat):Int)-((b:Nat):Int))),(a-b)] [] q1 q0 h0) (fun q1=>ah (.eq D E) [(.d (.Lt (.s (.c B) (.c C)) n0) (.eq D n0)),(.eq (.a E C) B),(.le C B)] [[0,1,0,0,0,0,1],[1,0,1,0,0,0,0,0,0,0,1]] rfl [a,b,(Int.toNat (((a:Nat):Int)-((b:Nat):Int))),(a-b)] [] q1 q0 h0)) (fun q0=>ah (.eq D E) [(.d (.lt B C) (.eq E n0)),(.le C B)] [[0,1,0,0,1],[0,1,0,0,1]] rfl [a,b,(Int.toNat (((a:Nat):Int)-((b:Nat):Int))),(a-b)] [] q0 h0)
theorem aay:a<=148->8+(4+a)+(160-(12+a))=160:=fun h0=>(spS 160 (12+a)).elim (fun q0=>ah (.eq (.a (.a n8 (.a n4 B)) C) cM) [(.eq (.a C (.a fO B)) cM),(.le B fW)] [[1,0,1],[1,1]] rfl [a,(160-(12+a))] [] q0 h0) (fun q0=>ah (.eq (.a (.a n8 (.a n4 B)) C) cM) [(.d (.lt cM (.a fO B)) (.eq C n0)),(.le B fW)] [[0,1,0,0,1],[0,1,0,0,1]] rfl [a,(160-(12+a))] [] q0 h0)
theorem aaz:a<=148->4+a<=100000:=ah (.le (.a n4 B) aJ) [(.le B fW)] [[1,1]] rfl [a] []
theorem aaA:a<=148->8+(4+a)<=100000:=ah (.le (.a n8 (.a n4 B)) aJ) [(.le B fW)] [[1,1]] rfl [a] []
theorem aaB:a<=148->8+(4+a)<=160:=ah (.le (.a n8 (.a n4 B)) cM) [(.le B fW)] [[1,1]] rfl [a] []
theorem aaC:8+(4+a)=12+a:=ah (.eq (.a n8 (.a n4 B)) (.a fO B)) [] [[1],[1]] rfl [a] []
theorem aaD:1+(a+b)=1+a+b:=ah (.eq (.a n1 (.a B C)) (.a (.a n1 B) C)) [] [[1],[1]] rfl [a,b] []
theorem aaE:0=1+(c+d)->a<=b:=ah (.le B C) [(.eq n0 (.a n1 (.a D E)))] [[0,0,1,0,0,1,1]] rfl [a,b,c,d] []
theorem aaF:b-a=1+c+d->a<=b->a+1<=b:=fun h0 h1=>(spS b a).elim (fun q0=>ah (.le (.a B n1) C) [(.eq (.a F B) C),(.eq F (.a (.a n1 D) E)),(.le B C)] [[1,1,0,0,1,0,0,0,1,1]] rfl [a,b,c,d,(b-a)] [] q0 h0 h1) (fun q0=>ah (.le (.a B n1) C) [(.d (.lt C B) (.eq F n0)),(.eq F (.a (.a n1 D) E)),(.le B C)] [[0,1,0,0,0,0,1]] rfl [a,b,c,d,(b-a)] [] q0 h0 h1)
theorem aaG:a<=100->(a:Int)<2 ^ 62:=ah (.Lt (.c B) aZ) [(.le B eD)] [[1,1]] rfl [a] []
theorem aaH:c-a=1+b+d->a<=c->a+1+b<=c:=fun h0 h1=>(spS c a).elim (fun q0=>ah (.le (.a (.a B n1) C) D) [(.eq (.a F B) D),(.eq F (.a (.a n1 C) E)),(.le B D)] [[1,1,0,0,1,0,0,0,0,1]] rfl [a,b,c,d,(c-a)] [] q0 h0 h1) (fun q0=>ah (.le (.a (.a B n1) C) D) [(.d (.lt D B) (.eq F n0)),(.eq F (.a (.a n1 C) E)),(.le B D)] [[0,1,0,0,0,0,1]] rfl [a,b,c,d,(c-a)] [] q0 h0 h1)
theorem aaI:b=a->a<=b:=ah (.le B C) [(.eq C B)] [[1,0,1]] rfl [a,b] []
theorem aaJ:a*16<=(a+b)*16:=ah (.le (.r B 16) (.r (.a B C) 16)) [] [[1,0,16]] rfl [a,b] []
theorem aaK:(a+b)*16-a*16=b*16:=(spS ((a+b)*16) (a*16)).elim (fun q0=>ah (.eq D (.r C 16)) [(.eq (.a D (.r B 16)) (.r (.a B C) 16))] [[1,0,1],[1,1]] rfl [a,b,(((a+b)*16)-(a*16))] [] q0) (fun q0=>ah (.eq D (.r C 16)) [(.d (.lt (.r (.a B C) 16) (.r B 16)) (.eq D n0))] [[0,1,0,0,0,16],[0,1,0,0,0,16]] rfl [a,b,(((a+b)*16)-(a*16))] [] q0)
theorem aaL:a+b<=24->0<=(a:Int)/\0<=(b:Int)/\(a:Int)+(b:Int)<=24:=ah (.d (.Le n0 (.c B)) (.d (.Le n0 (.c C)) (.Le (.a (.c B) (.c C)) rp))) [(.le (.a B C) rp)] [[1,0,1],[1,0,0,1],[1,1]] rfl [a,b] []
theorem aaM:c+a<=24->min (a*16) (b-c*16)<=100000:=fun h0=>(i_ (a*16) (b-(c*16))).elim (fun q0=>ah (.le E aJ) [(.d (.le (.r B 16) F) (.eq E (.r B 16))),(.le (.a D B) rp)] [[1,0,1,0,16,0,0,16]] rfl [a,b,c,(min (a*16) (b-(c*16))),(b-(c*16))] [] q0 h0) (fun q0=>ah (.le E aJ) [(.d (.lt F (.r B 16)) (.eq E F)),(.le (.a D B) rp)] [[1,1,1,0,16,0,0,16]] rfl [a,b,c,(min (a*16) (b-(c*16))),(b-(c*16))] [] q0 h0)
theorem aaN:c=a->c<=b->a<=b:=ah (.le B C) [(.eq D B),(.le D C)] [[1,0,1,1]] rfl [a,b,c] []
theorem aaO:a<=1000->b<10->a+b<=100000:=ah (.le (.a B C) aJ) [(.le B gK),(.lt C dZ)] [[1,1,1]] rfl [a,b] []
theorem aaP:b=384->a<24->c=16->min (a*16) b+c+(b-(a+1)*16)=384:=fun h0 h1 h2=>(i_ (a*16) b).elim (fun q0=>(spS b ((a+1)*16)).elim (fun q1=>ah (.eq (.a (.a E D) F) gh) [(.eq (.a F (.r (.a B n1) 16)) C),(.d (.le (.r B 16) C) (.eq E (.r B 16))),(.eq C gh),(.lt B rp),(.eq D mu)] [[1,0,1,0,0,1,0,1,0,0,1],[1,1,0,0,1,0,1,0,0,1]] rfl [a,b,c,(min (a*16) b),(b-((a+1)*16))] [] q1 q0 h0 h1 h2) (fun q1=>ah (.eq (.a (.a E D) F) gh) [(.d (.lt C (.r (.a B n1) 16)) (.eq F n0)),(.d (.le (.r B 16) C) (.eq E (.r B 16))),(.eq C gh),(.lt B rp),(.eq D mu)] [[0,1,0,0,0,0,0,0,1,16],[1,0,1,0,0,1,0,0,0,16,1]] rfl [a,b,c,(min (a*16) b),(b-((a+1)*16))] [] q1 q0 h0 h1 h2)) (fun q0=>ah (.eq (.a (.a E D) F) gh) [(.d (.lt C (.r B 16)) (.eq E C)),(.eq C gh),(.lt B rp),(.eq D mu)] [[0,1,0,0,0,1,16],[0,1,0,0,0,1,16]] rfl [a,b,c,(min (a*16) b),(b-((a+1)*16))] [] q0 h0 h1 h2)
theorem aaQ:Int.toNat ((a:Int)*16)=a*16:=(spT (((a:Nat):Int)*(16:Int))).elim (fun q0=>ah (.eq C (.r B 16)) [(.Eq (.c C) (.r (.c B) 16))] [[1,0,1],[1,1]] rfl [a,(Int.toNat (((a:Nat):Int)*(16:Int)))] [] q0) (fun q0=>ah (.eq C (.r B 16)) [(.d (.Lt (.r (.c B) 16) n0) (.eq C n0))] [[0,1,0,0,16],[0,1,0,0,16]] rfl [a,(Int.toNat (((a:Nat):Int)*(16:Int)))] [] q0)
theorem aaR:Int.toNat (((a:Int)+1)*16)=(a+1)*16:=(spT ((((a:Nat):Int)+(1:Int))*(16:Int))).elim (fun q0=>ah (.eq C (.r (.a B n1) 16)) [(.Eq (.c C) (.r (.a (.c B) n1) 16))] [[1,0,1],[1,1]] rfl [a,(Int.toNat ((((a:Nat):Int)+(1:Int))*(16:Int)))] [] q0) (fun q0=>ah (.eq C (.r (.a B n1) 16)) [(.d (.Lt (.r (.a (.c B) n1) 16) n0) (.eq C n0))] [[0,1,0,0,16],[0,1,0,0,16]] rfl [a,(Int.toNat ((((a:Nat):Int)+(1:Int))*(16:Int)))] [] q0)
theorem aaS:0<=(a:Int)*16:=ah (.Le n0 (.r (.c B) 16)) [] [[1,16]] rfl [a] []
theorem aaT:(a:Int)*16<=((a:Int)+1)*16:=ah (.Le (.r (.c B) 16) (.r (.a (.c B) n1) 16)) [] [[1]] rfl [a] []
theorem aaU:b=384->a<24->((a:Int)+1)*16<=(b:Int):=ah (.Le (.r (.a (.c B) n1) 16) (.c C)) [(.eq C gh),(.lt B rp)] [[1,0,1,16]] rfl [a,b] []
theorem aaV:a=16->Int.toNat ((b:Int)*16)=b*16->Int.toNat (((b:Int)+1)*16)=(b+1)*16->a=Int.toNat (((b:Int)+1)*16)-Int.toNat ((b:Int)*16):=fun h0 h1 h2=>(spS (Int.toNat ((((b:Nat):Int)+(1:Int))*(16:Int))) (Int.toNat (((b:Nat):Int)*(16:Int)))).elim (fun q0=>ah (.eq B F) [(.eq (.a F D) E),(.eq B mu),(.eq D (.r C 16)),(.eq E (.r (.a C n1) 16))] [[1,1,0,0,1,0,1,1],[1,0,1,1,0,1,0,0,1]] rfl [a,b,(Int.toNat (((b:Nat):Int)*(16:Int))),(Int.toNat ((((b:Nat):Int)+(1:Int))*(16:Int))),((Int.toNat ((((b:Nat):Int)+(1:Int))*(16:Int)))-(Int.toNat (((b:Nat):Int)*(16:Int))))] [] q0 h0 h1 h2) (fun q0=>ah (.eq B F) [(.d (.lt E D) (.eq F n0)),(.eq B mu),(.eq D (.r C 16)),(.eq E (.r (.a C n1) 16))] [[0,1,0,0,0,0,1,0,0,1],[0,1,0,0,0,0,1,0,0,1]] rfl [a,b,(Int.toNat (((b:Nat):Int)*(16:Int))),(Int.toNat ((((b:Nat):Int)+(1:Int))*(16:Int))),((Int.toNat ((((b:Nat):Int)+(1:Int))*(16:Int)))-(Int.toNat (((b:Nat):Int)*(16:Int))))] [] q0 h0 h1 h2)
theorem aaW:b+1≠a->b+1≠c->a≠c->a≠b+1:=fun h0 h1 h2=>(Ha h0).elim (fun q0=>ah (.no (.eq B (.a C n1))) [(.lt (.a C n1) B)] [[1,0,1]] rfl [a,b,c] [] q0) (fun q0=>ah (.no (.eq B (.a C n1))) [(.lt B (.a C n1))] [[0,1,1]] rfl [a,b,c] [] q0)
theorem aaX:b+1<a/\c<a/\d<a->a≠b+1:=ah (.no (.eq B (.a C n1))) [(.d (.lt (.a C n1) B) (.d (.lt D B) (.lt E B)))] [[1,0,1]] rfl [a,b,c,d] []
theorem aaY:a+1<b/\c<b/\d<b->a+1<b+1/\c<b+1/\b<b+1:=ah (.d (.lt (.a B n1) (.a C n1)) (.d (.lt D (.a C n1)) (.lt C (.a C n1)))) [(.d (.lt (.a B n1) C) (.d (.lt D C) (.lt E C)))] [[1,1],[1,0,1],[1]] rfl [a,b,c,d] []
theorem aaZ:a+1<=10->a<=10:=ah (.le B dZ) [(.le (.a B n1) dZ)] [[1,1]] rfl [a] []
theorem aa0:b=384->a+10<=24->min (a*16) b=a*16:=fun h0 h1=>(i_ (a*16) b).elim (fun q0=>ah (.eq D (.r B 16)) [(.d (.le (.r B 16) C) (.eq D (.r B 16))),(.eq C gh),(.le (.a B dZ) rp)] [[1,0,0,1],[1,0,1]] rfl [a,b,(min (a*16) b)] [] q0 h0 h1) (fun q0=>ah (.eq D (.r B 16)) [(.d (.lt C (.r B 16)) (.eq D C)),(.eq C gh),(.le (.a B dZ) rp)] [[0,1,0,0,0,1,16],[1,1,1]] rfl [a,b,(min (a*16) b)] [] q0 h0 h1)
theorem aa1:b=160->a+1<=10->min (a*16) b=a*16:=fun h0 h1=>(i_ (a*16) b).elim (fun q0=>ah (.eq D (.r B 16)) [(.d (.le (.r B 16) C) (.eq D (.r B 16))),(.eq C cM),(.le (.a B n1) dZ)] [[1,0,0,1],[1,0,1]] rfl [a,b,(min (a*16) b)] [] q0 h0 h1) (fun q0=>ah (.eq D (.r B 16)) [(.d (.lt C (.r B 16)) (.eq D C)),(.eq C cM),(.le (.a B n1) dZ)] [[0,1,0,0,0,1,16],[1,1,1]] rfl [a,b,(min (a*16) b)] [] q0 h0 h1)
theorem aa2:a*16+b*16=(a+b)*16:=ah (.eq (.a (.r B 16) (.r C 16)) (.r (.a B C) 16)) [] [[1],[1]] rfl [a,b] []
theorem aa3:(a+b+1)*16=a*16+b*16+16:=ah (.eq (.r (.a (.a B C) n1) 16) (.a (.a (.r B 16) (.r C 16)) mu)) [] [[1],[1]] rfl [a,b] []
theorem aa4:(a+b)*16+16=(a+(b+1))*16:=ah (.eq (.a (.r (.a B C) 16) mu) (.r (.a B (.a C n1)) 16)) [] [[1],[1]] rfl [a,b] []
theorem aa5:(a+1)*16=a*16+16:=ah (.eq (.r (.a B n1) 16) (.a (.r B 16) mu)) [] [[1],[1]] rfl [a] []
theorem aa6:a<24->0<=(a:Int)/\(0:Int)<=1/\(a:Int)+1<=24:=ah (.d (.Le n0 (.c B)) (.d (.Le n0 n1) (.Le (.a (.c B) n1) rp))) [(.lt B rp)] [[1,0,1],[1],[1,1]] rfl [a] []
theorem aa7:Int.toNat ((a:Int)*16+(b:Int))=a*16+b->0<=(a:Int)*16+(b:Int):=fun h0=>ah (.Le n0 (.a (.r (.c B) 16) (.c C))) [(.eq D (.a (.r B 16) C))] [[1,1,0,0,0,1]] rfl [a,b,(Int.toNat ((((a:Nat):Int)*(16:Int))+((b:Nat):Int)))] [] h0
theorem aa8:c=384->a<24->b<16->(a:Int)*16+(b:Int)<(c:Int):=ah (.Lt (.a (.r (.c B) 16) (.c C)) (.c D)) [(.eq D gh),(.lt B rp),(.lt C mu)] [[1,0,1,16,1]] rfl [a,b,c] []
theorem aa9:0<=u-> -(2 ^ 63)<=u:=ah (.Le (.s n0 bw) B) [(.Le n0 B)] [[1,1]] rfl [] [u]
theorem aa_:u<2 ^ 62->u<2 ^ 63:=ah (.Lt B bw) [(.Lt B aZ)] [[1,1]] rfl [] [u]
theorem aba:0<=u->u<(a:Int)->Int.toNat u<a:=fun h0 h1=>(spT u).elim (fun q0=>ah (.lt C B) [(.Eq (.c C) B),(.Le n0 B),(.Lt B (.c B))] [[1,1,0,0,1]] rfl [a,(Int.toNat u)] [u] q0 h0 h1) (fun q0=>ah (.lt C B) [(.d (.Lt B n0) (.eq C n0)),(.Le n0 B),(.Lt B (.c B))] [[0,1,0,0,1]] rfl [a,(Int.toNat u)] [u] q0 h0 h1)
theorem abb:a<b->(a:Int)<(b:Int):=ah (.Lt (.c B) (.c C)) [(.lt B C)] [[1,1]] rfl [a,b] []
theorem abc:a<=100->0<=(a:Int)/\(a:Int)<2 ^ 62:=ah (.d (.Le n0 (.c B)) (.Lt (.c B) aZ)) [(.le B eD)] [[1,0,1],[1,1]] rfl [a] []
theorem abd:¬(a<b)->¬((a:Int)<(b:Int)):=ah (.no (.Lt (.c B) (.c C))) [(.no (.lt B C))] [[1,1]] rfl [a,b] []
theorem abe:0<=u/\u<=100->u=((Int.toNat u:Nat):Int):=fun h0=>(spT u).elim (fun q0=>ah (.Eq B (.c B)) [(.Eq (.c B) B),(.d (.Le n0 B) (.Le B eD))] [[1,1],[1,0,1]] rfl [(Int.toNat u)] [u] q0 h0) (fun q0=>ah (.Eq B (.c B)) [(.d (.Lt B n0) (.eq B n0)),(.d (.Le n0 B) (.Le B eD))] [[0,1,0,0,1],[0,1,0,0,1]] rfl [(Int.toNat u)] [u] q0 h0)
theorem abf:0<=(a:Int)/\(a:Int)<=100->a<=100:=ah (.le B eD) [(.d (.Le n0 (.c B)) (.Le (.c B) eD))] [[1,0,1]] rfl [a] []
theorem abg:b<=100->a<b->0<=10+(a:Int)/\10+(a:Int)<2 ^ 32:=ah (.d (.Le n0 (.a dZ (.c B))) (.Lt (.a dZ (.c B)) c6)) [(.le C eD),(.lt B C)] [[1,0,0,1],[1,1,1]] rfl [a,b] []
theorem abh:b<=5->a=b->a<=11:=ah (.le B (.n 11)) [(.le C n5),(.eq B C)] [[1,1,1]] rfl [a,b] []
theorem abi:a=b->u=1/\1<b->2<=min 2 a:=fun h0 h1=>(i_ 2 a).elim (fun q0=>ah (.le n2 D) [(.d (.le n2 B) (.eq D n2)),(.eq B C),(.d (.Eq B n1) (.lt n1 C))] [[1,0,0,1]] rfl [a,b,(min 2 a)] [u] q0 h0 h1) (fun q0=>ah (.le n2 D) [(.d (.lt B n2) (.eq D B)),(.eq B C),(.d (.Eq B n1) (.lt n1 C))] [[0,1,0,0,0,1,0,0,1]] rfl [a,b,(min 2 a)] [u] q0 h0 h1)
theorem abj:min 2 a<=10:=(i_ 2 a).elim (fun q0=>ah (.le C dZ) [(.d (.le n2 B) (.eq C n2))] [[1,0,1]] rfl [a,(min 2 a)] [] q0) (fun q0=>ah (.le C dZ) [(.d (.lt B n2) (.eq C B))] [[1,1,1]] rfl [a,(min 2 a)] [] q0)
theorem abk:b<=5->a=b->a<=12:=ah (.le B fO) [(.le C n5),(.eq B C)] [[1,1,1]] rfl [a,b] []
theorem abl:a=b->u=2/\2<b->2<=min 3 a:=fun h0 h1=>(i_ 3 a).elim (fun q0=>ah (.le n2 D) [(.d (.le n3 B) (.eq D n3)),(.eq B C),(.d (.Eq B n2) (.lt n2 C))] [[1,0,0,1]] rfl [a,b,(min 3 a)] [u] q0 h0 h1) (fun q0=>ah (.le n2 D) [(.d (.lt B n3) (.eq D B)),(.eq B C),(.d (.Eq B n2) (.lt n2 C))] [[0,1,0,0,0,1,0,0,1]] rfl [a,b,(min 3 a)] [u] q0 h0 h1)
theorem abm:min 3 a<=10:=(i_ 3 a).elim (fun q0=>ah (.le C dZ) [(.d (.le n3 B) (.eq C n3))] [[1,0,1]] rfl [a,(min 3 a)] [] q0) (fun q0=>ah (.le C dZ) [(.d (.lt B n3) (.eq C B))] [[1,1,1]] rfl [a,(min 3 a)] [] q0)
theorem abn:b<=5->a=b->a<=10:=ah (.le B dZ) [(.le C n5),(.eq B C)] [[1,1,1]] rfl [a,b] []
theorem abo:1<=a->a<=5->b=a->a=0->False:=by lia
theorem abp:a+1<c->b=c->a<b:=ah (.lt B C) [(.lt (.a B n1) D),(.eq C D)] [[1,1,0,1]] rfl [a,b,c] []
theorem abq:a+1<c->b=c->a+1<b:=ah (.lt (.a B n1) C) [(.lt (.a B n1) D),(.eq C D)] [[1,1,0,1]] rfl [a,b,c] []
theorem abr:a+1<c->b=c+1->a+1<b/\c<b:=ah (.d (.lt (.a B n1) C) (.lt D C)) [(.lt (.a B n1) D),(.eq C (.a D n1))] [[1,1,0,1],[1,0,0,1]] rfl [a,b,c] []
theorem abt:c<=b/\c<=d/\c<=e->a<c->a≠b+1:=ah (.no (.eq B (.a C n1))) [(.d (.le D C) (.d (.le D E) (.le D F))),(.lt B D)] [[0,1,1,0,0,1]] rfl [a,b,c,d,e] []
theorem abu:c<=d/\c<=b/\c<=e->a<c->a≠b:=ah (.no (.eq B C)) [(.d (.le D E) (.d (.le D C) (.le D F))),(.lt B D)] [[0,1,0,1,0,1]] rfl [a,b,c,d,e] []
theorem abv:c<=d/\c<=e/\c<=b->a<c->a≠b:=ah (.no (.eq B C)) [(.d (.le D E) (.d (.le D F) (.le D C))),(.lt B D)] [[0,1,0,0,1,1]] rfl [a,b,c,d,e] []
theorem abw:c<=b->a<=c->a<=b:=ah (.le B C) [(.le D C),(.le B D)] [[1,1,1]] rfl [a,b,c] []
theorem abx:b=384->a=160->a+(b-160)=384:=fun h0 h1=>(spS b 160).elim (fun q0=>ah (.eq (.a B D) gh) [(.eq (.a D cM) C),(.eq C gh),(.eq B cM)] [[1,0,1,0,1,0,1],[1,1,0,1,0,1]] rfl [a,b,(b-160)] [] q0 h0 h1) (fun q0=>ah (.eq (.a B D) gh) [(.d (.lt C cM) (.eq D n0)),(.eq C gh),(.eq B cM)] [[0,1,0,0,0,1],[1,0,1,0,0,0,1]] rfl [a,b,(b-160)] [] q0 h0 h1)
theorem aby:a+10<=24->b<10->a+b<24:=ah (.lt (.a B C) rp) [(.le (.a B dZ) rp),(.lt C dZ)] [[1,1,1]] rfl [a,b] []
theorem abz:a=160->b<10->min 16 (a-b*16)=16:=fun h0 h1=>(spS a (b*16)).elim (fun q0=>(i_ 16 (a-(b*16))).elim (fun q1=>ah (.eq D mu) [(.d (.le mu E) (.eq D mu)),(.eq (.a E (.r C 16)) B),(.eq B cM),(.lt C dZ)] [[1,0,0,1],[1,0,1]] rfl [a,b,(min 16 (a-(b*16))),(a-(b*16))] [] q1 q0 h0 h1) (fun q1=>ah (.eq D mu) [(.d (.lt E mu) (.eq D E)),(.eq (.a E (.r C 16)) B),(.eq B cM),(.lt C dZ)] [[0,1,0,0,0,1,0,1,16],[1,1,1]] rfl [a,b,(min 16 (a-(b*16))),(a-(b*16))] [] q1 q0 h0 h1)) (fun q0=>ah (.eq D mu) [(.d (.lt B (.r C 16)) (.eq E n0)),(.eq B cM),(.lt C dZ)] [[0,1,0,0,0,1,16],[0,1,0,0,0,1,16]] rfl [a,b,(min 16 (a-(b*16))),(a-(b*16))] [] q0 h0 h1)
theorem abA:4+a<=148->4+a<=148:=ah (.le (.a n4 B) fW) [(.le (.a n4 B) fW)] [[1,1]] rfl [a] []
theorem abB:a<c->c<=d->d<e->e<=b->a<b:=ah (.lt B C) [(.lt B D),(.le D E),(.lt E F),(.le F C)] [[1,1,1,1,1]] rfl [a,b,c,d,e] []
theorem abC:a<=c/\a<=d/\a<=e->c+1<i/\d<i/\e<i->i<=j->j<k->k<=l->m<=b->l<=m->a<=b:=ah (.le B C) [(.d (.le B D) (.d (.le B E) (.le B F))),(.d (.lt (.a D n1) G) (.d (.lt E G) (.lt F G))),(.le G H),(.lt H J),(.le J K),(.le L C),(.le K L)] [[1,1,0,0,1,0,0,1,1,1,1,1]] rfl [a,b,c,d,e,i,j,k,l,m] []
theorem abD:0<=u/\u<2 ^ 62->u<2 ^ 63:=ah (.Lt B bw) [(.d (.Le n0 B) (.Lt B aZ))] [[1,0,1]] rfl [] [u]
theorem abE: -1<=u/\u<2 ^ 62-> -(2 ^ 63)<=u:=ah (.Le (.s n0 bw) B) [(.d (.Le (.s n0 n1) B) (.Lt B aZ))] [[1,1]] rfl [] [u]
theorem abF: -1<=u/\u<2 ^ 62->u<2 ^ 63:=ah (.Lt B bw) [(.d (.Le (.s n0 n1) B) (.Lt B aZ))] [[1,0,1]] rfl [] [u]
theorem abG: -1<=u/\u<2 ^ 62->u<0->u= -1:=ah (.Eq B (.s n0 n1)) [(.d (.Le (.s n0 n1) B) (.Lt B aZ)),(.Lt B n0)] [[1,1],[1,0,0,1]] rfl [] [u]
theorem abH:a-1<a->0<a:=fun h0=>ah (.lt n0 B) [(.lt C B)] [[1,1,0,1]] rfl [a,(a-1)] [] h0
theorem abI:¬(u<0)->0<=u:=ah (.Le n0 B) [(.no (.Lt B n0))] [[1,1]] rfl [] [u]
theorem abJ:Int.toNat u<a->¬(u<0)->u<(a:Int):=fun h0 h1=>(spT u).elim (fun q0=>ah (.Lt B (.c B)) [(.Eq (.c C) B),(.lt C B),(.no (.Lt B n0))] [[1,0,1,1]] rfl [a,(Int.toNat u)] [u] q0 h0 h1) (fun q0=>ah (.Lt B (.c B)) [(.d (.Lt B n0) (.eq C n0)),(.lt C B),(.no (.Lt B n0))] [[0,1,0,0,0,1]] rfl [a,(Int.toNat u)] [u] q0 h0 h1)
theorem abK:0<=u/\u<(a:Int)/\u<2 ^ 62->¬(u< -(2 ^ 63)):=ah (.no (.Lt B (.s n0 bw))) [(.d (.Le n0 B) (.d (.Lt B (.c B)) (.Lt B aZ)))] [[1,1]] rfl [a] [u]
theorem abL:0<=u/\u<(a:Int)/\u<2 ^ 62->¬(u>=2 ^ 63):=ah (.no (.Le bw B)) [(.d (.Le n0 B) (.d (.Lt B (.c B)) (.Lt B aZ)))] [[1,0,0,1]] rfl [a] [u]
theorem abM:0<=u/\u<(a:Int)/\u<2 ^ 62->Int.toNat u<a:=fun h0=>(spT u).elim (fun q0=>ah (.lt C B) [(.Eq (.c C) B),(.d (.Le n0 B) (.d (.Lt B (.c B)) (.Lt B aZ)))] [[1,1,0,0,1]] rfl [a,(Int.toNat u)] [u] q0 h0) (fun q0=>ah (.lt C B) [(.d (.Lt B n0) (.eq C n0)),(.d (.Le n0 B) (.d (.Lt B (.c B)) (.Lt B aZ)))] [[0,1,0,0,1]] rfl [a,(Int.toNat u)] [u] q0 h0)
theorem abN:0<=u->0<=(a:Int)+u:=ah (.Le n0 (.a (.c B) B)) [(.Le n0 B)] [[1,1,1]] rfl [a] [u]
theorem abO:u<=255*(b:Int)->a<2 ^ 8->(a:Int)+u<=255*((b:Int)+1):=ah (.Le (.a (.c B) B) (.m 255 (.a (.c C) n1))) [(.Le B (.m 255 (.c C))),(.lt B iD)] [[1,1,1]] rfl [a,b] [u]
theorem abP:(a:Int)+u+(b:Int)=(b:Int)+u+(a:Int):=ah (.Eq (.a (.a (.c B) B) (.c C)) (.a (.a (.c C) B) (.c B))) [] [[1],[1]] rfl [a,b] [u]
theorem abQ:u+(b:Int)=v+(c:Int)->(a:Int)+u+(b:Int)=(a:Int)+v+(c:Int):=ah (.Eq (.a (.a (.c B) B) (.c C)) (.a (.a (.c B) C) (.c D))) [(.Eq (.a B (.c C)) (.a C (.c D)))] [[1,0,1],[1,1]] rfl [a,b,c] [u,v]
theorem abR:a<=1000->b<=1000->u≠v->0<=u->u<=255*(a:Int)->0<=v->v<=255*(b:Int)->(1+u) % 4294967296=(1+v) % 4294967296->False:=by lia
theorem abS:1<=a->a<4->a=1\/a=2\/a=3:=by lia
theorem abT:148<u->148<Int.toNat u:=fun h0=>(spT u).elim (fun q0=>ah (.lt fW B) [(.Eq (.c B) B),(.Lt fW B)] [[1,0,1,1]] rfl [(Int.toNat u)] [u] q0 h0) (fun q0=>ah (.lt fW B) [(.d (.Lt B n0) (.eq B n0)),(.Lt fW B)] [[0,1,0,0,1]] rfl [(Int.toNat u)] [u] q0 h0)
theorem abU:a<8->a<12+b:=ah (.lt B (.a fO C)) [(.lt B n8)] [[1,1,0,1]] rfl [a,b] []
theorem abV:a<12->a<12+b:=ah (.lt B (.a fO C)) [(.lt B fO)] [[1,1,0,1]] rfl [a,b] []
theorem abW:148<a->148<(a:Int):=ah (.Lt fW (.c B)) [(.lt fW B)] [[1,1]] rfl [a] []
theorem abX:¬(148<a)->12+a<=160:=ah (.le (.a fO B) cM) [(.no (.lt fW B))] [[1,1]] rfl [a] []
theorem abY:b<=148->a<2 ^ 8->¬(148<a)->0+1+1+1+1+min a (b+(160-(12+b)))<=1000:=fun h0 h1 h2=>(i_ a (b+(160-(12+b)))).elim (fun q0=>ah (.le (.a (.a (.a (.a (.a n0 n1) n1) n1) n1) D) gK) [(.d (.le B (.a C E)) (.eq D B)),(.le C fW),(.lt B iD),(.no (.lt fW B))] [[1,0,1,0,0,1]] rfl [a,b,(min a (b+(160-(12+b)))),(160-(12+b))] [] q0 h0 h1 h2) (fun q0=>ah (.le (.a (.a (.a (.a (.a n0 n1) n1) n1) n1) D) gK) [(.d (.lt (.a C E) B) (.eq D (.a C E))),(.le C fW),(.lt B iD),(.no (.lt fW B))] [[1,1,1,0,0,1]] rfl [a,b,(min a (b+(160-(12+b)))),(160-(12+b))] [] q0 h0 h1 h2)
theorem abZ:a<b->v=u+w->0<=w->(a:Int)+u≠(b:Int)+v:=ah (.no (.Eq (.a (.c B) B) (.a (.c C) C))) [(.lt B C),(.Eq C (.a B D)),(.Le n0 D)] [[0,1,1,0,1,1]] rfl [a,b] [u,v,w]
theorem ab0:a≠b->(a:Int)+(u+0)≠(b:Int)+u:=fun h0=>(Ha h0).elim (fun q0=>ah (.no (.Eq (.a (.c B) (.a B n0)) (.a (.c C) B))) [(.lt B C)] [[0,1,1]] rfl [a,b] [u] q0) (fun q0=>ah (.no (.Eq (.a (.c B) (.a B n0)) (.a (.c C) B))) [(.lt C B)] [[1,0,1]] rfl [a,b] [u] q0)
theorem ab1:a<160->¬(a<8)->a<12->¬(a=8)->a=9\/a=10\/a=11:=by lia
theorem ab2:b≠0->¬(9=8)->148<(a:Int)+(b:Int)*256+((0:Nat):Int)*65536+((0:Nat):Int)*16777216:=fun h0 h1=>(Ha h0).elim (fun q0=>ah (.Lt fW (.a (.a (.a (.c B) (.r (.c C) 256)) (.r (.c n0) 65536)) (.r (.c n0) 16777216))) [(.lt C n0)] [[0,1,0,1]] rfl [a,b] [] q0) (fun q0=>ah (.Lt fW (.a (.a (.a (.c B) (.r (.c C) 256)) (.r (.c n0) 65536)) (.r (.c n0) 16777216))) [(.lt n0 C)] [[1,256,1]] rfl [a,b] [] q0)
theorem ab3:b≠0->¬(10=8)->148<(a:Int)+((0:Nat):Int)*256+(b:Int)*65536+((0:Nat):Int)*16777216:=fun h0 h1=>(Ha h0).elim (fun q0=>ah (.Lt fW (.a (.a (.a (.c B) (.r (.c n0) 256)) (.r (.c C) 65536)) (.r (.c n0) 16777216))) [(.lt C n0)] [[0,1,0,1]] rfl [a,b] [] q0) (fun q0=>ah (.Lt fW (.a (.a (.a (.c B) (.r (.c n0) 256)) (.r (.c C) 65536)) (.r (.c n0) 16777216))) [(.lt n0 C)] [[1,65536,1]] rfl [a,b] [] q0)
theorem ab4:b≠0->¬(11=8)->148<(a:Int)+((0:Nat):Int)*256+((0:Nat):Int)*65536+(b:Int)*16777216:=fun h0 h1=>(Ha h0).elim (fun q0=>ah (.Lt fW (.a (.a (.a (.c B) (.r (.c n0) 256)) (.r (.c n0) 65536)) (.r (.c C) 16777216))) [(.lt C n0)] [[0,1,0,1]] rfl [a,b] [] q0) (fun q0=>ah (.Lt fW (.a (.a (.a (.c B) (.r (.c n0) 256)) (.r (.c n0) 65536)) (.r (.c C) 16777216))) [(.lt n0 C)] [[1,16777216,1]] rfl [a,b] [] q0)
theorem ab5:v+(a:Int)=w+(b:Int)->b≠a->u+v≠u+w:=fun h0 h1=>(Ha h1).elim (fun q0=>ah (.no (.Eq (.a B C) (.a B D))) [(.lt C B),(.Eq (.a C (.c B)) (.a D (.c C)))] [[0,1,1,1]] rfl [a,b] [u,v,w] q0 h0) (fun q0=>ah (.no (.Eq (.a B C) (.a B D))) [(.lt B C),(.Eq (.a C (.c B)) (.a D (.c C)))] [[1,0,1,0,1]] rfl [a,b] [u,v,w] q0 h0)
theorem ab6:¬(b<8)->¬(b<12)->¬(b<12+a)->a<=b-8-4:=fun h0 h1 h2=>(spS b 8).elim (fun q0=>(spS (b-8) 4).elim (fun q1=>ah (.le B D) [(.eq (.a D n4) E),(.eq (.a E n8) C),(.no (.lt C n8)),(.no (.lt C fO)),(.no (.lt C (.a fO B)))] [[1,0,1,0,1,0,0,1]] rfl [a,b,((b-8)-4),(b-8)] [] q1 q0 h0 h1 h2) (fun q1=>ah (.le B D) [(.d (.lt E n4) (.eq D n0)),(.eq (.a E n8) C),(.no (.lt C n8)),(.no (.lt C fO)),(.no (.lt C (.a fO B)))] [[0,1,0,0,0,1,0,1]] rfl [a,b,((b-8)-4),(b-8)] [] q1 q0 h0 h1 h2)) (fun q0=>ah (.le B D) [(.d (.lt C n8) (.eq E n0)),(.no (.lt C n8)),(.no (.lt C fO)),(.no (.lt C (.a fO B)))] [[0,1,0,0,1]] rfl [a,b,((b-8)-4),(b-8)] [] q0 h0 h1 h2)
theorem ab7:a<=8->min a b<=8:=fun h0=>(i_ a b).elim (fun q0=>ah (.le D n8) [(.d (.le B C) (.eq D B)),(.le B n8)] [[1,0,1,0,1]] rfl [a,b,(min a b)] [] q0 h0) (fun q0=>ah (.le D n8) [(.d (.lt C B) (.eq D C)),(.le B n8)] [[1,1,1,0,1]] rfl [a,b,(min a b)] [] q0 h0)
theorem ab8:a+1+0+b=a+(b+1):=ah (.eq (.a (.a (.a B n1) n0) C) (.a B (.a C n1))) [] [[1],[1]] rfl [a,b] []
theorem ab9:a<=100->¬(0+a>16777216):=ah (.no (.lt ei (.a n0 B))) [(.le B eD)] [[1,1]] rfl [a] []
theorem ab_:b<c->32<=a/\a<127->d=a % 256->a<256:=by lia
theorem aca:32<=a->0<=(a:Int):=ah (.Le n0 (.c B)) [(.le (.n 32) B)] [[1,1]] rfl [a] []
theorem acb:a<127->(a:Int)<=1114111:=ah (.Le (.c B) (.n 1114111)) [(.lt B (.n 127))] [[1,1]] rfl [a] []
theorem acd:32<=a/\a<127->a<128:=ah (.lt B (.n 128)) [(.d (.le (.n 32) B) (.lt B (.n 127)))] [[1,0,1]] rfl [a] []
theorem ace:32<=a/\a<127->0<=(a:Int)/\(a:Int)<256:=ah (.d (.Le n0 (.c B)) (.Lt (.c B) iD)) [(.d (.le (.n 32) B) (.lt B (.n 127)))] [[1,1],[1,0,1]] rfl [a] []
theorem acf:b<=8->a<=5000->a+b<=100000:=ah (.le (.a B C) aJ) [(.le C n8),(.le B (.n 5000))] [[1,1,1]] rfl [a,b] []
theorem acg:1<=a/\a<=255->(b+a) % 256=b->False:=by lia
theorem ach:160<=b->min 160 a<=b:=fun h0=>(i_ 160 a).elim (fun q0=>ah (.le D C) [(.d (.le cM B) (.eq D cM)),(.le cM C)] [[1,0,1,0,1]] rfl [a,b,(min 160 a)] [] q0 h0) (fun q0=>ah (.le D C) [(.d (.lt B cM) (.eq D B)),(.le cM C)] [[1,1,1,0,1]] rfl [a,b,(min 160 a)] [] q0 h0)
theorem aci:¬(208+a<208):=ah (.no (.lt (.a (.n 208) B) (.n 208))) [] [[1,1]] rfl [a] []
theorem acj:a=160->min 208 (a+(384-160))+a+(a+(384-160)-368)=384:=fun h0=>(spS 384 160).elim (fun q0=>(spS (a+(384-160)) 368).elim (fun q1=>(i_ 208 (a+(384-160))).elim (fun q2=>ah (.eq (.a (.a C B) D) gh) [(.d (.le (.n 208) (.a B E)) (.eq C (.n 208))),(.eq (.a D (.n 368)) (.a B E)),(.eq (.a E cM) gh),(.eq B cM)] [[1,0,0,1,0,1,0,1,0,2],[1,0,1,0,1,0,1,0,2]] rfl [a,(min 208 (a+(384-160))),((a+(384-160))-368),(384-160)] [] q2 q1 q0 h0) (fun q2=>ah (.eq (.a (.a C B) D) gh) [(.d (.lt (.a B E) (.n 208)) (.eq C (.a B E))),(.eq (.a D (.n 368)) (.a B E)),(.eq (.a E cM) gh),(.eq B cM)] [[0,1,0,0,1,0,0,0,0,0,0,0,1],[0,1,0,0,1,0,0,0,0,0,0,0,1]] rfl [a,(min 208 (a+(384-160))),((a+(384-160))-368),(384-160)] [] q2 q1 q0 h0)) (fun q1=>ah (.eq (.a (.a C B) D) gh) [(.d (.lt (.a B E) (.n 368)) (.eq D n0)),(.eq (.a E cM) gh),(.eq B cM)] [[0,1,0,0,0,1,0,1],[0,1,0,0,0,1,0,1]] rfl [a,(min 208 (a+(384-160))),((a+(384-160))-368),(384-160)] [] q1 q0 h0)) (fun q0=>ah (.eq (.a (.a C B) D) gh) [(.d (.lt gh cM) (.eq E n0)),(.eq B cM)] [[0,1],[0,1]] rfl [a,(min 208 (a+(384-160))),((a+(384-160))-368),(384-160)] [] q0 h0)
theorem ack:a=160->160<=min 208 (a+(384-160)):=fun h0=>(i_ 208 (a+(384-160))).elim (fun q0=>ah (.le cM C) [(.d (.le (.n 208) (.a B D)) (.eq C (.n 208))),(.eq B cM)] [[1,0,0,1]] rfl [a,(min 208 (a+(384-160))),(384-160)] [] q0 h0) (fun q0=>ah (.le cM C) [(.d (.lt (.a B D) (.n 208)) (.eq C (.a B D))),(.eq B cM)] [[1,0,0,1,0,1,0,0,1]] rfl [a,(min 208 (a+(384-160))),(384-160)] [] q0 h0)
theorem acm:a=160->min 160 208<=a:=fun h0=>(i_ 160 208).elim (fun q0=>ah (.le C B) [(.d (.le cM (.n 208)) (.eq C cM)),(.eq B cM)] [[1,0,1,0,0,1]] rfl [a,(min 160 208)] [] q0 h0) (fun q0=>ah (.le C B) [(.d (.lt (.n 208) cM) (.eq C (.n 208))),(.eq B cM)] [[0,1]] rfl [a,(min 160 208)] [] q0 h0)
theorem acn:a=160->a<=min 160 208:=fun h0=>(i_ 160 208).elim (fun q0=>ah (.le B C) [(.d (.le cM (.n 208)) (.eq C cM)),(.eq B cM)] [[1,0,0,1,1]] rfl [a,(min 160 208)] [] q0 h0) (fun q0=>ah (.le B C) [(.d (.lt (.n 208) cM) (.eq C (.n 208))),(.eq B cM)] [[0,1]] rfl [a,(min 160 208)] [] q0 h0)
theorem aco:a=160->min 208 (a+(384-160))=208:=fun h0=>(spS 384 160).elim (fun q0=>(i_ 208 (a+(384-160))).elim (fun q1=>ah (.eq C (.n 208)) [(.d (.le (.n 208) (.a B D)) (.eq C (.n 208))),(.eq (.a D cM) gh),(.eq B cM)] [[1,0,0,1],[1,0,1]] rfl [a,(min 208 (a+(384-160))),(384-160)] [] q1 q0 h0) (fun q1=>ah (.eq C (.n 208)) [(.d (.lt (.a B D) (.n 208)) (.eq C (.a B D))),(.eq (.a D cM) gh),(.eq B cM)] [[0,1,0,0,0,1,0,1],[1,1,1]] rfl [a,(min 208 (a+(384-160))),(384-160)] [] q1 q0 h0)) (fun q0=>ah (.eq C (.n 208)) [(.d (.lt gh cM) (.eq D n0)),(.eq B cM)] [[0,1],[0,1]] rfl [a,(min 208 (a+(384-160))),(384-160)] [] q0 h0)
theorem acq:a<=100000->a<=1099511627776:=ah (.le B (.n 1099511627776)) [(.le B aJ)] [[1,1]] rfl [a] []
theorem acr:0<=u/\u<=1114111->¬(u<0):=ah (.no (.Lt B n0)) [(.d (.Le n0 B) (.Le B (.n 1114111)))] [[1,1]] rfl [] [u]
theorem acs:0<=u/\u<=1114111->¬(u>1114111):=ah (.no (.Lt (.n 1114111) B)) [(.d (.Le n0 B) (.Le B (.n 1114111)))] [[1,0,1]] rfl [] [u]
theorem acu:min 63 a<=63:=(i_ 63 a).elim (fun q0=>ah (.le C (.n 63)) [(.d (.le (.n 63) B) (.eq C (.n 63)))] [[1,0,1]] rfl [a,(min 63 a)] [] q0) (fun q0=>ah (.le C (.n 63)) [(.d (.lt B (.n 63)) (.eq C B))] [[1,1,1]] rfl [a,(min 63 a)] [] q0)
theorem acv:b<=6->a<=0+c->c<=b->a<64:=ah (.lt B (.n 64)) [(.le C (.n 6)),(.le B (.a n0 D)),(.le D C)] [[1,1,1,1]] rfl [a,b,c] []
theorem acw:b<=6->a<=0+c->c<=b->a<=1000:=ah (.le B gK) [(.le C (.n 6)),(.le B (.a n0 D)),(.le D C)] [[1,1,1,1]] rfl [a,b,c] []
theorem acx:b<=1000->a=b->a<=1000:=ah (.le B gK) [(.le C gK),(.eq B C)] [[1,1,1]] rfl [a,b] []
theorem acy:¬(0>300):=ah (.no (.lt (.n 300) n0)) [] [[1]] rfl [] []
theorem acz:a<64->¬(a/30+1>300):=by lia
theorem acA:b<=c->c<=d->a=c-b->d<=100000->a<=100000:=fun h0 h1 h2 h3=>(spS c b).elim (fun q0=>ah (.le B aJ) [(.eq (.a F C) D),(.le C D),(.le D E),(.eq B F),(.le E aJ)] [[1,1,0,0,1,1,0,1,0,1]] rfl [a,b,c,d,(c-b)] [] q0 h0 h1 h2 h3) (fun q0=>ah (.le B aJ) [(.d (.lt D C) (.eq F n0)),(.le C D),(.le D E),(.eq B F),(.le E aJ)] [[0,1,0,0,1]] rfl [a,b,c,d,(c-b)] [] q0 h0 h1 h2 h3)
theorem acB:a<=c->c<=b->min a b=a:=fun h0 h1=>(i_ a b).elim (fun q0=>ah (.eq E B) [(.d (.le B C) (.eq E B)),(.le B D),(.le D C)] [[1,0,0,1],[1,0,1]] rfl [a,b,c,(min a b)] [] q0 h0 h1) (fun q0=>ah (.eq E B) [(.d (.lt C B) (.eq E C)),(.le B D),(.le D C)] [[0,1,0,0,1,1],[0,1,0,0,1,1]] rfl [a,b,c,(min a b)] [] q0 h0 h1)
theorem acC:a<=b->min a b=a:=fun h0=>(i_ a b).elim (fun q0=>ah (.eq D B) [(.d (.le B C) (.eq D B)),(.le B C)] [[1,0,0,1],[1,0,1]] rfl [a,b,(min a b)] [] q0 h0) (fun q0=>ah (.eq D B) [(.d (.lt C B) (.eq D C)),(.le B C)] [[0,1,0,0,1],[0,1,0,0,1]] rfl [a,b,(min a b)] [] q0 h0)
theorem acD:a<=b->c=a->d=b->max (a:Int) (b:Int)=(b:Int):=by lia
theorem acE:b<=a->c=b->d=a->max (b:Int) (a:Int)=(a:Int)->((a-b:Nat):Int)=(a:Int)-(b:Int):=by lia
theorem acF:a<=d->d<=b->c=d-a->b<=100000->e=a->i=d->max (a:Int) (d:Int)=(d:Int)->min a b+(c+(b-d))<=100000:=by lia
theorem acG:a+b<=100000->a+b<=100000:=ah (.le (.a B C) aJ) [(.le (.a B C) aJ)] [[1,1]] rfl [a,b] []
theorem acH:c<=b->a+1<c->a+1≠b:=ah (.no (.eq (.a B n1) C)) [(.le D C),(.lt (.a B n1) D)] [[0,1,1,1]] rfl [a,b,c] []
theorem acI:c<=b->a+1<c/\d<c/\e<c->a≠b:=ah (.no (.eq B C)) [(.le D C),(.d (.lt (.a B n1) D) (.d (.lt E D) (.lt F D)))] [[0,1,1,1]] rfl [a,b,c,d,e] []
theorem acJ:c<=b->a+1<c/\d<c/\e<c->a+1≠b:=ah (.no (.eq (.a B n1) C)) [(.le D C),(.d (.lt (.a B n1) D) (.d (.lt E D) (.lt F D)))] [[0,1,1,1]] rfl [a,b,c,d,e] []
theorem acK:c<=b->d+1<c/\a<c/\e<c->a≠b:=ah (.no (.eq B C)) [(.le D C),(.d (.lt (.a E n1) D) (.d (.lt B D) (.lt F D)))] [[0,1,1,0,1]] rfl [a,b,c,d,e] []
theorem acL:c<=b->d+1<c/\e<c/\a<c->a≠b:=ah (.no (.eq B C)) [(.le D C),(.d (.lt (.a E n1) D) (.d (.lt F D) (.lt B D)))] [[0,1,1,0,0,1]] rfl [a,b,c,d,e] []
theorem acM:a<=d+c->d<=b+1->a<=b+(c+1):=ah (.le B (.a C (.a D n1))) [(.le B (.a E D)),(.le E (.a C n1))] [[1,1,1]] rfl [a,b,c,d] []
theorem acN:a<=100*b->b<=10->a<=1000:=ah (.le B gK) [(.le B (.m 100 C)),(.le C dZ)] [[1,1,100]] rfl [a,b] []
theorem acO:c<=100->b<=c->min a b<=100:=fun h0 h1=>(i_ a b).elim (fun q0=>ah (.le E eD) [(.d (.le B C) (.eq E B)),(.le D eD),(.le C D)] [[1,1,1,0,1,1]] rfl [a,b,c,(min a b)] [] q0 h0 h1) (fun q0=>ah (.le E eD) [(.d (.lt C B) (.eq E C)),(.le D eD),(.le C D)] [[1,0,1,0,1,1]] rfl [a,b,c,(min a b)] [] q0 h0 h1)
theorem acP:b<=100->c<=b->a<=min d c->a<=100000:=fun h0 h1 h2=>(i_ d c).elim (fun q0=>ah (.le B aJ) [(.d (.le E D) (.eq F E)),(.le C eD),(.le D C),(.le B F)] [[1,1,1,0,1,1,1]] rfl [a,b,c,d,(min d c)] [] q0 h0 h1 h2) (fun q0=>ah (.le B aJ) [(.d (.lt D E) (.eq F D)),(.le C eD),(.le D C),(.le B F)] [[1,0,1,0,1,1,1]] rfl [a,b,c,d,(min d c)] [] q0 h0 h1 h2)
end
end
open PySem PySem.W PyProof.Rows PySem.Calls PySem.Spec
abbrev eE:= @Nat.lt_of_lt_of_le
abbrev eW:= @List.length_map
abbrev iq:= @List.getElem?_eq_getElem
abbrev d9:= @Option.some.inj
abbrev gT:= @Heap.get?_push_of_some
abbrev dU:= @Nat.le_refl
abbrev ir:= @List.length_append
abbrev iZ:= @Nat.le_of_ble_eq_true
abbrev gA:= @Nat.lt_succ_self
abbrev pj:= @List.getD_eq_getElem?_getD
abbrev fX:= @List.size_toArray
abbrev ig:= @List.length_take
abbrev jC:= @List.mem_of_getElem?
abbrev iR:= @Heap.get?_push_size
abbrev ja:= @List.getElem?_map
abbrev hF:= @List.take_length
abbrev jb:= @List.map_append
abbrev nN:= @Option.map_eq_some_iff
abbrev l9:= @Int.toNat_natCast
abbrev qV:= @List.take_of_length_le
abbrev oJ:= @List.length_drop
abbrev aN:= @wpAny_bind
abbrev cP:= @wpAny_pure
abbrev rI:= @List.mem_cons_self
abbrev bR:= @of_decide_eq_true
abbrev oK:= @List.length_cons
abbrev jc:= @Nat.le_trans
section
set_option backward.match.sparseCases false
noncomputable abbrev PP:Program:=Challenge.rw_pb0586_01.row.toRowW.1
noncomputable def st(i:Nat):Stmt:=PP.main.body.getD i (.Pass default)
noncomputable def fj(i j:Nat):Stmt:=match st i with
 | .ClassDef _ _ _ b _ _ _ _ _ _ _=>b.getD j (.Pass default)
 |s=>s
noncomputable abbrev k(P:Params)(x:Str)(t:Nat)(v:Value):DictEntry:=⟨PyData.keyHash P x,.str x t,v⟩
noncomputable abbrev sv(x:Str)(t:Nat):Value:= .str x t
noncomputable abbrev r(a:Nat):Value:= .ref a
noncomputable def fn(s:Stmt)(q:Str)(d kd doc pm:Value)(ann:Option Addr)(code ct:Value)(g b:Addr)(cl:List (Str×Addr)):FuncData:=match s with
 | .FunctionDef n ps body _ _ _ sc _ _ _=>⟨n,q,ps,.stmts body,sc,g,cl,d,kd,doc,pm,ann,code,ct,b⟩
 |_=>default
noncomputable abbrev i0(n:Int):Value:= .int n 0
noncomputable abbrev bX:Obj:=⟨.type "tuple",none,.seq #[] 0, #[]⟩
noncomputable abbrev z0:Obj:=⟨.none,none,.fields #[], #[]⟩
noncomputable abbrev tu(l:Array Value):Obj:=⟨.type "tuple",none,.seq l 0, #[]⟩
noncomputable abbrev zf(l:Array Value):Obj:=⟨.none,none,.fields l, #[]⟩
noncomputable abbrev di(l:Array DictEntry)(n:Nat):Obj:=⟨.type "dict",none,.dict l n, #[]⟩
noncomputable abbrev bf(x:String)(v:Value):Obj:=⟨.type "builtin_function_or_method",none,.fields #[.builtin x,v], #[]⟩
noncomputable abbrev fm(a b c:Nat)(x:Str)(t:Nat):Obj:=⟨.type "frame",none,.plain, #[some (r a),some (r b),some (r c),none,some (sv x t),none,some (r 0)]⟩
noncomputable abbrev fu(s:Stmt)(q:Str):Obj:=⟨.none,none,.func (fn s q .none .none .none .none none .none .none 0 0 []), #[]⟩
noncomputable abbrev ff(s:Stmt)(q m:Str)(t a b:Nat):Obj:=⟨.type "function",none,.func (fn s q .none .none .none (sv m t) none (r a) .none b 0 []), #[]⟩
noncomputable abbrev cg(n q:Str)(t:Nat)(a b e:Int)(f:Nat)(x:Bool)(h:Int)(l:List Value)(u:Nat):Obj:=⟨.type "code",none,.fields ([sv n t,sv q (t+1),sv "/claim/cut.py" (t+2),i0 a,i0 b,i0 0,i0 0,i0 e,r f,.bool x,i0 h]++l++ [i0 u,i0 a,sv "/claim/cut.py" (u+1)]).toArray, #[]⟩
noncomputable abbrev cf(n q:Str)(t:Nat)(a b:Int)(f u:Nat):Obj:=cg n q t a b 3 f true 181 [r (f+1),.none,r (f+2),r (f+3),r (f+4)] u
noncomputable abbrev cm(n q:Str)(t:Nat)(a:Int)(f:Nat)(h:Int)(u:Nat):Obj:=cg n q t a 0 0 f false h [r (f+1),.none,.none,.none,.none] u
noncomputable def bo(P:Params)(i:Nat):Obj:=(boot_heap P).objs.toList.getD i default
noncomputable def mE(P:Params):List DictEntry:= [k P "__name__" 165 (sv "law_pb0586_01" 930),k P "__doc__" 166 .none,k P "__package__" 167 .none,k P "__loader__" 168 (.builtin "__main__.__loader__#opaque"),k P "__spec__" 169 .none,k P "__annotations__" 170 (r 6),k P "__builtins__" 171 (r 4),k P "__file__" 173 (sv "/claim/cut.py" 172),k P "__cached__" 174 .none,k P "_wall" 193 (r 21),k P "PoolFault" 224 (r 38),k P "Corrupt" 240 (r 51),k P "Misused" 256 (r 63),k P "Unopened" 272 (r 75),k P "number_of" 280 (r 82),k P "octets_of" 286 (r 87),k P "text_octets" 292 (r 92),k P "octets_text" 298 (r 97),k P "Sink" 359 (r 142),k P "Cursor" 422 (r 192),k P "padded" 430 (r 203),k P "MAGIC" 434 (.int 1953654117 433),k P "VERSION" 436 (.int 1 435),k P "MOST_PARITY" 438 (.int 3 437),k P "MOST_CHILDREN" 440 (.int 32 439),k P "NUMBERS" 444 (.int 4294967296 443),k P "Node" 486 (r 227),k P "Config" 528 (r 254),k P "sorts" 534 (r 265),k P "number_of_disks" 544 (r 272),k P "disk_node" 551 (r 279),k P "node_of" 557 (r 284),k P "disks_of" 566 (r 291),k P "config_of_plans" 573 (r 297),k P "all_disks" 582 (r 304),k P "put_node" 591 (r 311),k P "config_octets" 600 (r 318),k P "read_node" 606 (r 323),k P "config_of" 612 (r 328),k P "Shape" 674 (r 346),k P "many_of" 682 (r 357),k P "SUM" 686 (.int 8 685),k P "LENGTH" 688 (.int 4 687),k P "slot_sectors" 695 (r 364),k P "config_sectors" 702 (r 371),k P "label_sectors" 709 (r 378),k P "label_begins" 717 (r 385),k P "part_sum" 723 (r 390),k P "config_part" 733 (r 397),k P "config_in" 741 (r 404),k P "put_config" 752 (r 411),k P "read_config" 763 (r 418),k P "GUID" 767 (.int 4 766),k P "label_octets" 775 (r 425),k P "write_labels" 785 (r 432),k P "Disk" 921 (r 526),k P "found_disks" 929 (r 535),k P "_law_cell" 939 (r 542),k P "_law_plans" 945 (r 547),k P "_law_configs" 957 (r 554),k P "_law_harm" 968 (r 561),k P "_law_disk" 985 (r 568),k P "_law_told" 994 (r 575),k P "law" 1000 (r 580)]
noncomputable def lF:List Value:= [(i0 1),(i0 0),(r 20),(i0 5),(i0 0),(r 27),(i0 10),(i0 0),(r 47),(i0 12),(i0 0),(r 59),(i0 14),(i0 0),(r 71),(i0 17),(i0 0),(r 81),(i0 19),(i0 0),(r 86),(i0 23),(i0 0),(r 91),(i0 28),(i0 0),(r 96),(i0 32),(i0 0),(r 103),(i0 50),(i0 0),(r 152),(i0 71),(i0 0),(r 202),(i0 81),(i0 0),(r 209),(i0 91),(i0 0),(r 237),(i0 101),(i0 0),(r 264),(i0 103),(i0 0),(r 271),(i0 108),(i0 0),(r 278),(i0 114),(i0 0),(r 283),(i0 127),(i0 0),(r 290),(i0 134),(i0 0),(r 296),(i0 142),(i0 0),(r 303),(i0 147),(i0 0),(r 310),(i0 154),(i0 0),(r 317),(i0 165),(i0 0),(r 322),(i0 175),(i0 0),(r 327),(i0 184),(i0 0),(r 334),(i0 198),(i0 0),(r 356),(i0 203),(i0 0),(r 363),(i0 205),(i0 0),(r 370),(i0 207),(i0 0),(r 377),(i0 209),(i0 0),(r 384),(i0 211),(i0 0),(r 389),(i0 215),(i0 0),(r 396),(i0 221),(i0 0),(r 403),(i0 226),(i0 0),(r 410),(i0 230),(i0 0),(r 417),(i0 239),(i0 0),(r 424),(i0 241),(i0 0),(r 431),(i0 246),(i0 0),(r 438),(i0 316),(i0 0),(r 534),(i0 334),(i0 0),(r 541),(i0 336),(i0 0),(r 546),(i0 341),(i0 0),(r 553),(i0 346),(i0 0),(r 560),(i0 349),(i0 0),(r 567),(i0 362),(i0 0),(r 574),(i0 365),(i0 0),(r 579)]
noncomputable abbrev pf(l:List Value):Obj:=⟨(.type "type"),none,.cls ⟨"PoolFault", [(.type "Exception")], [(r 38),(.type "Exception"),(.type "BaseException"),(.type "object")],37,"PoolFault",true, [],l,false,none,false⟩, #[some (r 22),none,some (sv "PoolFault" 196),some (sv "PoolFault" 204),some (.builtin "Exception.__new__"),some (.bool true)]⟩
noncomputable def hl0(P:Params):List Obj:= [
 bo P 0,
 di #[k P "builtins" 162 (r 4),k P "__main__" 163 (r 5)] 2,
 ⟨.none,none,.dict #[k P "type.__subclasses__.Exception.0" 221 (i0 38),k P "type.__subclasses__.Exception.n" 222 (i0 1)] 2, #[]⟩,
 di (mE P).toArray 64,
 ⟨(.type "module"),some 0,.plain, #[]⟩,
 ⟨(.type "module"),some 3,.plain, #[]⟩,
 di #[] 0,
 bX,
 z0,
 cm "<module>" "<module>" 176 1 7 175 179,
 fm 9 3 3 "__main__" 164,
 bX,
 zf lF.toArray,
 cm "<module>" "<module>" 182 1 11 181 185,
 fm 13 3 3 "__main__" 164,
 bX,
 z0,
 tu #[(sv "k" 190)],
 bX,
 fu (st 0) "_wall",
 cf "_wall" "_wall" 187 1 1 15 191,
 ff (st 0) "_wall" "__main__" 164 20 3,
 tu #[(.type "Exception")],
 bf "type.__prepare__" (.type "type"),
 di #[k P "__module__" 203 (sv "treepool.faults" 194),k P "__qualname__" 205 (sv "PoolFault" 204),k P "__firstlineno__" 207 (.int 5 206),k P "__init__" 215 (r 35),k P "__static_attributes__" 217 (r 36)] 5,
 bX,
 zf #[(i0 7),(i0 4),(r 34)],
 cm "PoolFault" "PoolFault" 198 5 25 181 201,
 fm 27 3 24 "treepool.faults" 194,
 bX,
 z0,
 tu #[(sv "self" 211),(sv "why" 212)],
 bX,
 fu (fj 2 0) "PoolFault.__init__",
 cf "__init__" "PoolFault.__init__" 208 7 2 29 213,
 ff (fj 2 0) "PoolFault.__init__" "treepool.faults" 194 34 3,
 tu #[(sv "why" 216)],
 di #[k P "__module__" 203 (sv "treepool.faults" 194),k P "__firstlineno__" 207 (.int 5 206),k P "__init__" 215 (r 35),k P "__static_attributes__" 217 (r 36),k P "__weakref__" 219 (r 39),k P "__doc__" 220 .none] 3,
 pf [(r 51),(r 63),(r 75)],
 ⟨(.type "getset_descriptor"),none,.fields #[(sv "__weakref__" 218),(r 38),(.builtin "ExceptionGroup.__weakref__"),.none], #[]⟩]
noncomputable def Hg(P:Params):List Obj:= [
 ⟨(.type "super"),none,.fields #[(r 38),(r 38),(r 38)], #[]⟩,
 bf "object.__init_subclass__" (r 38),
 tu #[(r 38)],
 bf "type.__prepare__" (.type "type"),
 di #[k P "__module__" 232 (sv "treepool.faults" 194),k P "__qualname__" 234 (sv "Corrupt" 233),k P "__firstlineno__" 236 (.int 10 235),k P "__static_attributes__" 237 (r 49)] 4,
 bX,
 z0,
 cm "Corrupt" "Corrupt" 227 10 45 181 230,
 fm 47 3 44 "treepool.faults" 194,
 bX,
 di #[k P "__module__" 232 (sv "treepool.faults" 194),k P "__firstlineno__" 236 (.int 10 235),k P "__static_attributes__" 237 (r 49),k P "__doc__" 238 .none] 2,
 ⟨(.type "type"),none,.cls ⟨"Corrupt", [(r 38)], [(r 51),(r 38),(.type "Exception"),(.type "BaseException"),(.type "object")],50,"Corrupt",true, [], [],false,none,false⟩, #[some (r 42),none,some (sv "Corrupt" 225),some (sv "Corrupt" 233),some (.builtin "Exception.__new__"),some (.bool true)]⟩,
 ⟨(.type "super"),none,.fields #[(r 51),(r 51),(r 51)], #[]⟩,
 bf "object.__init_subclass__" (r 51),
 tu #[(r 38)],
 bf "type.__prepare__" (.type "type"),
 di #[k P "__module__" 248 (sv "treepool.faults" 194),k P "__qualname__" 250 (sv "Misused" 249),k P "__firstlineno__" 252 (.int 12 251),k P "__static_attributes__" 253 (r 61)] 4,
 bX,
 z0,
 cm "Misused" "Misused" 243 12 57 181 246,
 fm 59 3 56 "treepool.faults" 194,
 bX,
 di #[k P "__module__" 248 (sv "treepool.faults" 194),k P "__firstlineno__" 252 (.int 12 251),k P "__static_attributes__" 253 (r 61),k P "__doc__" 254 .none] 2,
 ⟨(.type "type"),none,.cls ⟨"Misused", [(r 38)], [(r 63),(r 38),(.type "Exception"),(.type "BaseException"),(.type "object")],62,"Misused",true, [], [],false,none,false⟩, #[some (r 54),none,some (sv "Misused" 241),some (sv "Misused" 249),some (.builtin "Exception.__new__"),some (.bool true)]⟩,
 ⟨(.type "super"),none,.fields #[(r 63),(r 63),(r 63)], #[]⟩,
 bf "object.__init_subclass__" (r 63),
 tu #[(r 38)],
 bf "type.__prepare__" (.type "type"),
 di #[k P "__module__" 264 (sv "treepool.faults" 194),k P "__qualname__" 266 (sv "Unopened" 265),k P "__firstlineno__" 268 (.int 14 267),k P "__static_attributes__" 269 (r 73)] 4,
 bX,
 z0,
 cm "Unopened" "Unopened" 259 14 69 181 262,
 fm 71 3 68 "treepool.faults" 194,
 bX,
 di #[k P "__module__" 264 (sv "treepool.faults" 194),k P "__firstlineno__" 268 (.int 14 267),k P "__static_attributes__" 269 (r 73),k P "__doc__" 270 .none] 2,
 ⟨(.type "type"),none,.cls ⟨"Unopened", [(r 38)], [(r 75),(r 38),(.type "Exception"),(.type "BaseException"),(.type "object")],74,"Unopened",true, [], [],false,none,false⟩, #[some (r 66),none,some (sv "Unopened" 257),some (sv "Unopened" 265),some (.builtin "Exception.__new__"),some (.bool true)]⟩,
 ⟨(.type "super"),none,.fields #[(r 75),(r 75),(r 75)], #[]⟩,
 bf "object.__init_subclass__" (r 75),
 bX,
 z0]
noncomputable def AY(P:Params):List Obj:= [
 fu (st 7) "number_of",
 cg "number_of" "number_of" 275 17 1 3 78 true 181 [(r 79),.none,.none,.none,(r 80)] 278,
 ff (st 7) "number_of" "treepool.octets" 273 81 3,
 bX,
 z0,
 fu (st 8) "octets_of",
 cg "octets_of" "octets_of" 281 19 2 3 83 true 181 [(r 84),.none,.none,.none,(r 85)] 284,
 ff (st 8) "octets_of" "treepool.octets" 273 86 3,
 bX,
 z0,
 fu (st 9) "text_octets",
 cg "text_octets" "text_octets" 287 23 1 3 88 true 181 [(r 89),.none,.none,.none,(r 90)] 290,
 ff (st 9) "text_octets" "treepool.octets" 273 91 3,
 bX,
 z0,
 fu (st 10) "octets_text",
 cg "octets_text" "octets_text" 293 28 1 3 93 true 181 [(r 94),.none,.none,.none,(r 95)] 296,
 ff (st 10) "octets_text" "treepool.octets" 273 96 3,
 bX,
 bf "type.__prepare__" (.type "type"),
 di #[k P "__module__" 306 (sv "treepool.octets" 273),k P "__qualname__" 308 (sv "Sink" 307),k P "__firstlineno__" 310 (.int 32 309),k P "__init__" 317 (r 111),k P "number" 326 (r 118),k P "put" 334 (r 125),k P "text" 343 (r 132),k P "whole" 350 (r 139),k P "__static_attributes__" 352 (r 140)] 9,
 bX,
 zf #[(i0 34),(i0 4),(r 110),(i0 37),(i0 4),(r 117),(i0 40),(i0 4),(r 124),(i0 43),(i0 4),(r 131),(i0 48),(i0 4),(r 138)],
 cm "Sink" "Sink" 301 32 101 181 304,
 fm 103 3 100 "treepool.octets" 273,
 bX,
 z0,
 tu #[(sv "self" 314)],
 bX,
 fu (fj 11 0) "Sink.__init__",
 cf "__init__" "Sink.__init__" 311 34 1 105 315,
 ff (fj 11 0) "Sink.__init__" "treepool.octets" 273 110 3,
 bX,
 z0,
 tu #[(sv "self" 321),(sv "number" 322),(sv "size" 323)],
 bX,
 fu (fj 11 1) "Sink.number",
 cf "number" "Sink.number" 318 37 3 112 324,
 ff (fj 11 1) "Sink.number" "treepool.octets" 273 117 3,
 bX]
noncomputable def Pw(P:Params):List Obj:= [
 z0,
 tu #[(sv "self" 330),(sv "octets" 331)],
 bX,
 fu (fj 11 2) "Sink.put",
 cf "put" "Sink.put" 327 40 2 119 332,
 ff (fj 11 2) "Sink.put" "treepool.octets" 273 124 3,
 bX,
 z0,
 tu #[(sv "self" 338),(sv "text" 339),(sv "octets" 340)],
 bX,
 fu (fj 11 3) "Sink.text",
 cf "text" "Sink.text" 335 43 2 126 341,
 ff (fj 11 3) "Sink.text" "treepool.octets" 273 131 3,
 bX,
 z0,
 tu #[(sv "self" 347)],
 bX,
 fu (fj 11 4) "Sink.whole",
 cf "whole" "Sink.whole" 344 48 1 133 348,
 ff (fj 11 4) "Sink.whole" "treepool.octets" 273 138 3,
 tu #[(sv "octets" 351)],
 di #[k P "__module__" 306 (sv "treepool.octets" 273),k P "__firstlineno__" 310 (.int 32 309),k P "__init__" 317 (r 111),k P "number" 326 (r 118),k P "put" 334 (r 125),k P "text" 343 (r 132),k P "whole" 350 (r 139),k P "__static_attributes__" 352 (r 140),k P "__dict__" 354 (r 143),k P "__weakref__" 356 (r 144),k P "__doc__" 357 .none] 4,
 ⟨(.type "type"),none,.cls ⟨"Sink", [(.type "object")], [(r 142),(.type "object")],141,"Sink",true, [], [],false,none,false⟩, #[none,none,some (sv "Sink" 299),some (sv "Sink" 307),some (.builtin "object.__new__"),some (.bool true)]⟩,
 ⟨(.type "getset_descriptor"),none,.fields #[(sv "__dict__" 353),(r 142),(.builtin "function.__dict__"),(.builtin "function.__dict__#set")], #[]⟩,
 ⟨(.type "getset_descriptor"),none,.fields #[(sv "__weakref__" 355),(r 142),(.builtin "ExceptionGroup.__weakref__"),.none], #[]⟩,
 ⟨(.type "super"),none,.fields #[(r 142),(r 142),(r 142)], #[]⟩,
 bf "object.__init_subclass__" (r 142),
 bX,
 bf "type.__prepare__" (.type "type"),
 di #[k P "__module__" 367 (sv "treepool.octets" 273),k P "__qualname__" 369 (sv "Cursor" 368),k P "__firstlineno__" 371 (.int 50 370),k P "__init__" 381 (r 161),k P "left" 388 (r 168),k P "take" 397 (r 175),k P "number" 405 (r 182),k P "text" 412 (r 189),k P "__static_attributes__" 415 (r 190)] 9,
 bX,
 zf #[(i0 52),(i0 4),(r 160),(i0 56),(i0 4),(r 167),(i0 59),(i0 4),(r 174),(i0 66),(i0 4),(r 181),(i0 69),(i0 4),(r 188)],
 cm "Cursor" "Cursor" 362 50 150 181 365,
 fm 152 3 149 "treepool.octets" 273,
 tu #[(.int 0 372)],
 bX,
 z0,
 tu #[(sv "self" 376),(sv "octets" 377),(sv "at" 378)],
 bX,
 fu (fj 12 0) "Cursor.__init__"]
noncomputable def hl4(P:Params):List Obj:= [
 cf "__init__" "Cursor.__init__" 373 52 3 155 379,
 ⟨(.type "function"),none,.func (fn (fj 12 0) "Cursor.__init__" (r 154) .none .none (sv "treepool.octets" 273) none (r 160) .none 3 0 []), #[]⟩,
 bX,
 z0,
 tu #[(sv "self" 385)],
 bX,
 fu (fj 12 1) "Cursor.left",
 cf "left" "Cursor.left" 382 56 1 162 386,
 ff (fj 12 1) "Cursor.left" "treepool.octets" 273 167 3,
 bX,
 z0,
 tu #[(sv "self" 392),(sv "many" 393),(sv "found" 394)],
 bX,
 fu (fj 12 2) "Cursor.take",
 cf "take" "Cursor.take" 389 59 2 169 395,
 ff (fj 12 2) "Cursor.take" "treepool.octets" 273 174 3,
 bX,
 z0,
 tu #[(sv "self" 401),(sv "size" 402)],
 bX,
 fu (fj 12 3) "Cursor.number",
 cf "number" "Cursor.number" 398 66 2 176 403,
 ff (fj 12 3) "Cursor.number" "treepool.octets" 273 181 3,
 bX,
 z0,
 tu #[(sv "self" 409)],
 bX,
 fu (fj 12 4) "Cursor.text",
 cf "text" "Cursor.text" 406 69 1 183 410,
 ff (fj 12 4) "Cursor.text" "treepool.octets" 273 188 3,
 tu #[(sv "at" 413),(sv "octets" 414)],
 di #[k P "__module__" 367 (sv "treepool.octets" 273),k P "__firstlineno__" 371 (.int 50 370),k P "__init__" 381 (r 161),k P "left" 388 (r 168),k P "take" 397 (r 175),k P "number" 405 (r 182),k P "text" 412 (r 189),k P "__static_attributes__" 415 (r 190),k P "__dict__" 417 (r 193),k P "__weakref__" 419 (r 194),k P "__doc__" 420 .none] 4,
 ⟨(.type "type"),none,.cls ⟨"Cursor", [(.type "object")], [(r 192),(.type "object")],191,"Cursor",true, [], [],false,none,false⟩, #[none,none,some (sv "Cursor" 360),some (sv "Cursor" 368),some (.builtin "object.__new__"),some (.bool true)]⟩,
 ⟨(.type "getset_descriptor"),none,.fields #[(sv "__dict__" 416),(r 192),(.builtin "function.__dict__"),(.builtin "function.__dict__#set")], #[]⟩,
 ⟨(.type "getset_descriptor"),none,.fields #[(sv "__weakref__" 418),(r 192),(.builtin "ExceptionGroup.__weakref__"),.none], #[]⟩,
 ⟨(.type "super"),none,.fields #[(r 192),(r 192),(r 192)], #[]⟩,
 bf "object.__init_subclass__" (r 192),
 bX,
 z0,
 tu #[(sv "octets" 426),(sv "size" 427)]]
noncomputable def hl5(P:Params):List Obj:= [
 bX,
 fu (st 13) "padded",
 cf "padded" "padded" 423 71 2 197 428,
 ff (st 13) "padded" "treepool.octets" 273 202 3,
 bX,
 bf "type.__prepare__" (.type "type"),
 di #[k P "__module__" 452 (sv "treepool.config" 431),k P "__qualname__" 454 (sv "Node" 453),k P "__firstlineno__" 456 (.int 81 455),k P "__init__" 468 (r 219),k P "plain" 474 (r 224),k P "__static_attributes__" 479 (r 225)] 6,
 bX,
 zf #[(i0 83),(i0 4),(r 218),(i0 89),(i0 4),(r 223)],
 cm "Node" "Node" 447 81 207 181 450,
 fm 209 3 206 "treepool.config" 431,
 bX,
 tu #[(r 211),(.int 0 457)],
 bX,
 z0,
 tu #[(sv "self" 461),(sv "sort" 462),(sv "guid" 463),(sv "children" 464),(sv "parity" 465)],
 bX,
 fu (fj 20 0) "Node.__init__",
 cf "__init__" "Node.__init__" 458 83 5 213 466,
 ⟨(.type "function"),none,.func (fn (fj 20 0) "Node.__init__" (r 212) .none .none (sv "treepool.config" 431) none (r 218) .none 3 0 []), #[]⟩,
 bX,
 z0,
 fu (fj 20 1) "Node.plain",
 cg "plain" "Node.plain" 469 89 1 3 220 true 181 [(r 221),.none,.none,.none,(r 222)] 472,
 ff (fj 20 1) "Node.plain" "treepool.config" 431 223 3,
 tu #[(sv "children" 475),(sv "guid" 476),(sv "parity" 477),(sv "sort" 478)],
 di #[k P "__module__" 452 (sv "treepool.config" 431),k P "__firstlineno__" 456 (.int 81 455),k P "__init__" 468 (r 219),k P "plain" 474 (r 224),k P "__static_attributes__" 479 (r 225),k P "__dict__" 481 (r 228),k P "__weakref__" 483 (r 229),k P "__doc__" 484 .none] 4,
 ⟨(.type "type"),none,.cls ⟨"Node", [(.type "object")], [(r 227),(.type "object")],226,"Node",true, [], [],false,none,false⟩, #[none,none,some (sv "Node" 445),some (sv "Node" 453),some (.builtin "object.__new__"),some (.bool true)]⟩,
 ⟨(.type "getset_descriptor"),none,.fields #[(sv "__dict__" 480),(r 227),(.builtin "function.__dict__"),(.builtin "function.__dict__#set")], #[]⟩,
 ⟨(.type "getset_descriptor"),none,.fields #[(sv "__weakref__" 482),(r 227),(.builtin "ExceptionGroup.__weakref__"),.none], #[]⟩,
 ⟨(.type "super"),none,.fields #[(r 227),(r 227),(r 227)], #[]⟩,
 bf "object.__init_subclass__" (r 227),
 bX,
 bf "type.__prepare__" (.type "type"),
 di #[k P "__module__" 494 (sv "treepool.config" 431),k P "__qualname__" 496 (sv "Config" 495),k P "__firstlineno__" 498 (.int 91 497),k P "__init__" 510 (r 246),k P "plain" 516 (r 251),k P "__static_attributes__" 521 (r 252)] 6,
 bX,
 zf #[(i0 93),(i0 4),(r 245),(i0 99),(i0 4),(r 250)],
 cm "Config" "Config" 489 91 235 181 492,
 fm 237 3 234 "treepool.config" 431,
 tu #[(.int 1 499)]]
noncomputable def hl6(P:Params):List Obj:= [
 bX,
 z0,
 tu #[(sv "self" 503),(sv "name" 504),(sv "guid" 505),(sv "tops" 506),(sv "edition" 507)],
 bX,
 fu (fj 21 0) "Config.__init__",
 cf "__init__" "Config.__init__" 500 93 5 240 508,
 ⟨(.type "function"),none,.func (fn (fj 21 0) "Config.__init__" (r 239) .none .none (sv "treepool.config" 431) none (r 245) .none 3 0 []), #[]⟩,
 bX,
 z0,
 fu (fj 21 1) "Config.plain",
 cg "plain" "Config.plain" 511 99 1 3 247 true 181 [(r 248),.none,.none,.none,(r 249)] 514,
 ff (fj 21 1) "Config.plain" "treepool.config" 431 250 3,
 tu #[(sv "edition" 517),(sv "guid" 518),(sv "name" 519),(sv "tops" 520)],
 di #[k P "__module__" 494 (sv "treepool.config" 431),k P "__firstlineno__" 498 (.int 91 497),k P "__init__" 510 (r 246),k P "plain" 516 (r 251),k P "__static_attributes__" 521 (r 252),k P "__dict__" 523 (r 255),k P "__weakref__" 525 (r 256),k P "__doc__" 526 .none] 4,
 ⟨(.type "type"),none,.cls ⟨"Config", [(.type "object")], [(r 254),(.type "object")],253,"Config",true, [], [],false,none,false⟩, #[none,none,some (sv "Config" 487),some (sv "Config" 495),some (.builtin "object.__new__"),some (.bool true)]⟩,
 ⟨(.type "getset_descriptor"),none,.fields #[(sv "__dict__" 522),(r 254),(.builtin "function.__dict__"),(.builtin "function.__dict__#set")], #[]⟩,
 ⟨(.type "getset_descriptor"),none,.fields #[(sv "__weakref__" 524),(r 254),(.builtin "ExceptionGroup.__weakref__"),.none], #[]⟩,
 ⟨(.type "super"),none,.fields #[(r 254),(r 254),(r 254)], #[]⟩,
 bf "object.__init_subclass__" (r 254),
 bX,
 z0,
 bX,
 bX,
 fu (st 22) "sorts",
 cf "sorts" "sorts" 529 101 0 259 532,
 ff (st 22) "sorts" "treepool.config" 431 264 3,
 bX,
 z0,
 tu #[(sv "guids" 538),(sv "parity" 539),(sv "found" 540),(sv "guid" 541)],
 bX,
 fu (st 23) "number_of_disks",
 cf "number_of_disks" "number_of_disks" 535 103 2 266 542,
 ff (st 23) "number_of_disks" "treepool.config" 431 271 3,
 bX,
 z0,
 tu #[(sv "plan" 548)],
 bX,
 fu (st 24) "disk_node",
 cf "disk_node" "disk_node" 545 108 1 273 549,
 ff (st 24) "disk_node" "treepool.config" 431 278 3]
noncomputable def hl7(P:Params):List Obj:= [
 bX,
 z0,
 fu (st 25) "node_of",
 cg "node_of" "node_of" 552 114 1 3 280 true 181 [(r 281),.none,.none,.none,(r 282)] 555,
 ff (st 25) "node_of" "treepool.config" 431 283 3,
 bX,
 z0,
 tu #[(sv "node" 561),(sv "found" 562),(sv "child" 563)],
 bX,
 fu (st 26) "disks_of",
 cf "disks_of" "disks_of" 558 127 1 285 564,
 ff (st 26) "disks_of" "treepool.config" 431 290 3,
 tu #[(.int 1 567)],
 bX,
 z0,
 fu (st 27) "config_of_plans",
 cg "config_of_plans" "config_of_plans" 568 134 4 3 293 true 181 [(r 294),.none,.none,.none,(r 295)] 571,
 ⟨(.type "function"),none,.func (fn (st 27) "config_of_plans" (r 292) .none .none (sv "treepool.config" 431) none (r 296) .none 3 0 []), #[]⟩,
 bX,
 z0,
 tu #[(sv "config" 577),(sv "found" 578),(sv "node" 579)],
 bX,
 fu (st 28) "all_disks",
 cf "all_disks" "all_disks" 574 142 1 298 580,
 ff (st 28) "all_disks" "treepool.config" 431 303 3,
 bX,
 z0,
 tu #[(sv "sink" 586),(sv "node" 587),(sv "child" 588)],
 bX,
 fu (st 29) "put_node",
 cf "put_node" "put_node" 583 147 2 305 589,
 ff (st 29) "put_node" "treepool.config" 431 310 3,
 bX,
 z0,
 tu #[(sv "config" 595),(sv "sink" 596),(sv "node" 597)],
 bX,
 fu (st 30) "config_octets",
 cf "config_octets" "config_octets" 592 154 1 312 598,
 ff (st 30) "config_octets" "treepool.config" 431 317 3,
 bX]
noncomputable def hl8(P:Params):List Obj:= [
 z0,
 fu (st 31) "read_node",
 cg "read_node" "read_node" 601 165 2 3 319 true 181 [(r 320),.none,.none,.none,(r 321)] 604,
 ff (st 31) "read_node" "treepool.config" 431 322 3,
 bX,
 z0,
 fu (st 32) "config_of",
 cg "config_of" "config_of" 607 175 1 3 324 true 181 [(r 325),.none,.none,.none,(r 326)] 610,
 ff (st 32) "config_of" "treepool.config" 431 327 3,
 bX,
 bf "type.__prepare__" (.type "type"),
 di #[k P "__module__" 622 (sv "treepool.shape" 613),k P "__qualname__" 624 (sv "Shape" 623),k P "__firstlineno__" 626 (.int 184 625),k P "__init__" 655 (r 343),k P "__static_attributes__" 667 (r 344)] 5,
 bX,
 zf #[(i0 186),(i0 4),(r 342)],
 cm "Shape" "Shape" 617 184 332 181 620,
 fm 334 3 331 "treepool.shape" 613,
 tu #[(.int 16 627),(.int 32 628),(.int 32 629),(.int 4 630),(.int 4 631),(.int 4 632),(.int 2 633),(.int 128 634),(.int 192 635),(.int 160 636),(.int 128 637)],
 bX,
 z0,
 tu #[(sv "self" 641),(sv "sector" 642),(sv "slab" 643),(sv "record" 644),(sv "fan" 645),(sv "dnodes" 646),(sv "ring" 647),(sv "defer" 648),(sv "most_record" 649),(sv "uber" 650),(sv "config" 651),(sv "zap" 652)],
 bX,
 fu (fj 34 0) "Shape.__init__",
 cf "__init__" "Shape.__init__" 638 186 12 337 653,
 ⟨(.type "function"),none,.func (fn (fj 34 0) "Shape.__init__" (r 336) .none .none (sv "treepool.shape" 613) none (r 342) .none 3 0 []), #[]⟩,
 tu #[(sv "config" 656),(sv "defer" 657),(sv "dnodes" 658),(sv "fan" 659),(sv "most_record" 660),(sv "record" 661),(sv "ring" 662),(sv "sector" 663),(sv "slab" 664),(sv "uber" 665),(sv "zap" 666)],
 di #[k P "__module__" 622 (sv "treepool.shape" 613),k P "__firstlineno__" 626 (.int 184 625),k P "__init__" 655 (r 343),k P "__static_attributes__" 667 (r 344),k P "__dict__" 669 (r 347),k P "__weakref__" 671 (r 348),k P "__doc__" 672 .none] 4,
 ⟨(.type "type"),none,.cls ⟨"Shape", [(.type "object")], [(r 346),(.type "object")],345,"Shape",true, [], [],false,none,false⟩, #[none,none,some (sv "Shape" 615),some (sv "Shape" 623),some (.builtin "object.__new__"),some (.bool true)]⟩,
 ⟨(.type "getset_descriptor"),none,.fields #[(sv "__dict__" 668),(r 346),(.builtin "function.__dict__"),(.builtin "function.__dict__#set")], #[]⟩,
 ⟨(.type "getset_descriptor"),none,.fields #[(sv "__weakref__" 670),(r 346),(.builtin "ExceptionGroup.__weakref__"),.none], #[]⟩,
 ⟨(.type "super"),none,.fields #[(r 346),(r 346),(r 346)], #[]⟩,
 bf "object.__init_subclass__" (r 346),
 bX,
 z0,
 tu #[(sv "size" 678),(sv "part" 679)],
 bX,
 fu (st 35) "many_of",
 cf "many_of" "many_of" 675 198 2 351 680,
 ff (st 35) "many_of" "treepool.shape" 613 356 3,
 bX,
 z0]
noncomputable def Kh(P:Params):List Obj:= [
 tu #[(sv "shape" 692)],
 bX,
 fu (st 39) "slot_sectors",
 cf "slot_sectors" "slot_sectors" 689 203 1 358 693,
 ff (st 39) "slot_sectors" "treepool.labels" 683 363 3,
 bX,
 z0,
 tu #[(sv "shape" 699)],
 bX,
 fu (st 40) "config_sectors",
 cf "config_sectors" "config_sectors" 696 205 1 365 700,
 ff (st 40) "config_sectors" "treepool.labels" 683 370 3,
 bX,
 z0,
 tu #[(sv "shape" 706)],
 bX,
 fu (st 41) "label_sectors",
 cf "label_sectors" "label_sectors" 703 207 1 372 707,
 ff (st 41) "label_sectors" "treepool.labels" 683 377 3,
 bX,
 z0,
 tu #[(sv "disk" 713),(sv "shape" 714)],
 bX,
 fu (st 42) "label_begins",
 cf "label_begins" "label_begins" 710 209 2 379 715,
 ff (st 42) "label_begins" "treepool.labels" 683 384 3,
 bX,
 z0,
 fu (st 43) "part_sum",
 cg "part_sum" "part_sum" 718 211 1 3 386 true 181 [(r 387),.none,.none,.none,(r 388)] 721,
 ff (st 43) "part_sum" "treepool.labels" 683 389 3,
 bX,
 z0,
 tu #[(sv "shape" 727),(sv "octets" 728),(sv "size" 729),(sv "rest" 730)],
 bX,
 fu (st 44) "config_part",
 cf "config_part" "config_part" 724 215 2 391 731,
 ff (st 44) "config_part" "treepool.labels" 683 396 3,
 bX,
 z0]
noncomputable def Sf(P:Params):List Obj:= [
 tu #[(sv "part" 737),(sv "end" 738)],
 bX,
 fu (st 45) "config_in",
 cf "config_in" "config_in" 734 221 1 398 739,
 ff (st 45) "config_in" "treepool.labels" 683 403 3,
 bX,
 z0,
 tu #[(sv "disk" 745),(sv "shape" 746),(sv "octets" 747),(sv "part" 748),(sv "begin" 749)],
 bX,
 fu (st 46) "put_config",
 cf "put_config" "put_config" 742 226 3 405 750,
 ff (st 46) "put_config" "treepool.labels" 683 410 3,
 bX,
 z0,
 tu #[(sv "disk" 756),(sv "shape" 757),(sv "begin" 758),(sv "part" 759),(sv "found" 760)],
 bX,
 fu (st 47) "read_config",
 cf "read_config" "read_config" 753 230 2 412 761,
 ff (st 47) "read_config" "treepool.labels" 683 417 3,
 bX,
 z0,
 tu #[(sv "guid" 771),(sv "config" 772)],
 bX,
 fu (st 50) "label_octets",
 cf "label_octets" "label_octets" 768 239 2 419 773,
 ff (st 50) "label_octets" "treepool.poolmake" 764 424 3,
 bX,
 z0,
 tu #[(sv "disks" 779),(sv "config" 780),(sv "shape" 781),(sv "guid" 782)],
 bX,
 fu (st 51) "write_labels",
 cf "write_labels" "write_labels" 776 241 3 426 783,
 ff (st 51) "write_labels" "treepool.poolmake" 764 431 3,
 bX,
 bf "type.__prepare__" (.type "type"),
 di #[k P "__module__" 795 (sv "treepool.disks" 786),k P "__qualname__" 797 (sv "Disk" 796),k P "__firstlineno__" 799 (.int 246 798),k P "__init__" 808 (r 446),k P "sectors" 815 (r 453),k P "want" 824 (r 460),k P "read" 837 (r 467),k P "write" 848 (r 474),k P "put" 857 (r 481),k P "flush" 866 (r 488),k P "pending" 873 (r 495),k P "crash" 881 (r 502),k P "crash_after" 889 (r 509),k P "harm" 899 (r 516),k P "copy_to" 907 (r 523),k P "__static_attributes__" 914 (r 524)] 16,
 bX,
 zf #[(i0 248),(i0 4),(r 445),(i0 256),(i0 4),(r 452),(i0 259),(i0 4),(r 459),(i0 263),(i0 4),(r 466),(i0 275),(i0 4),(r 473),(i0 287),(i0 4),(r 480),(i0 290),(i0 4),(r 487),(i0 298),(i0 4),(r 494),(i0 301),(i0 4),(r 501),(i0 304),(i0 4),(r 508),(i0 307),(i0 4),(r 515),(i0 313),(i0 4),(r 522)],
 cm "Disk" "Disk" 790 246 436 181 793,
 fm 438 3 435 "treepool.disks" 786]
noncomputable def Sh(P:Params):List Obj:= [
 bX,
 z0,
 tu #[(sv "self" 803),(sv "sectors" 804),(sv "shape" 805)],
 bX,
 fu (fj 53 0) "Disk.__init__",
 cf "__init__" "Disk.__init__" 800 248 3 440 806,
 ff (fj 53 0) "Disk.__init__" "treepool.disks" 786 445 3,
 bX,
 z0,
 tu #[(sv "self" 812)],
 bX,
 fu (fj 53 1) "Disk.sectors",
 cf "sectors" "Disk.sectors" 809 256 1 447 813,
 ff (fj 53 1) "Disk.sectors" "treepool.disks" 786 452 3,
 bX,
 z0,
 tu #[(sv "self" 819),(sv "sector" 820),(sv "many" 821)],
 bX,
 fu (fj 53 2) "Disk.want",
 cf "want" "Disk.want" 816 259 3 454 822,
 ff (fj 53 2) "Disk.want" "treepool.disks" 786 459 3,
 bX,
 z0,
 tu #[(sv "self" 828),(sv "sector" 829),(sv "many" 830),(sv "found" 831),(sv "place" 832),(sv "octets" 833),(sv "at" 834)],
 bX,
 fu (fj 53 3) "Disk.read",
 cf "read" "Disk.read" 825 263 3 461 835,
 ff (fj 53 3) "Disk.read" "treepool.disks" 786 466 3,
 bX,
 z0,
 tu #[(sv "self" 841),(sv "sector" 842),(sv "octets" 843),(sv "many" 844),(sv "place" 845)],
 bX,
 fu (fj 53 4) "Disk.write",
 cf "write" "Disk.write" 838 275 3 468 846,
 ff (fj 53 4) "Disk.write" "treepool.disks" 786 473 3,
 bX,
 z0,
 tu #[(sv "self" 852),(sv "sector" 853),(sv "octets" 854)],
 bX,
 fu (fj 53 5) "Disk.put"]
noncomputable def Si(P:Params):List Obj:= [
 cf "put" "Disk.put" 849 287 3 475 855,
 ff (fj 53 5) "Disk.put" "treepool.disks" 786 480 3,
 bX,
 z0,
 tu #[(sv "self" 861),(sv "sector" 862),(sv "octets" 863)],
 bX,
 fu (fj 53 6) "Disk.flush",
 cf "flush" "Disk.flush" 858 290 1 482 864,
 ff (fj 53 6) "Disk.flush" "treepool.disks" 786 487 3,
 bX,
 z0,
 tu #[(sv "self" 870)],
 bX,
 fu (fj 53 7) "Disk.pending",
 cf "pending" "Disk.pending" 867 298 1 489 871,
 ff (fj 53 7) "Disk.pending" "treepool.disks" 786 494 3,
 bX,
 z0,
 tu #[(sv "self" 877),(sv "kept" 878)],
 bX,
 fu (fj 53 8) "Disk.crash",
 cf "crash" "Disk.crash" 874 301 2 496 879,
 ff (fj 53 8) "Disk.crash" "treepool.disks" 786 501 3,
 bX,
 z0,
 tu #[(sv "self" 885),(sv "many" 886)],
 bX,
 fu (fj 53 9) "Disk.crash_after",
 cf "crash_after" "Disk.crash_after" 882 304 2 503 887,
 ff (fj 53 9) "Disk.crash_after" "treepool.disks" 786 508 3,
 bX,
 z0,
 tu #[(sv "self" 893),(sv "sector" 894),(sv "at" 895),(sv "octet" 896)],
 bX,
 fu (fj 53 10) "Disk.harm",
 cf "harm" "Disk.harm" 890 307 4 510 897,
 ff (fj 53 10) "Disk.harm" "treepool.disks" 786 515 3,
 bX,
 z0,
 tu #[(sv "self" 903),(sv "other" 904)]]
noncomputable def Sj(P:Params):List Obj:= [
 bX,
 fu (fj 53 11) "Disk.copy_to",
 cf "copy_to" "Disk.copy_to" 900 313 2 517 905,
 ff (fj 53 11) "Disk.copy_to" "treepool.disks" 786 522 3,
 tu #[(sv "is_out" 908),(sv "octets" 909),(sv "reads" 910),(sv "sector" 911),(sv "waiting" 912),(sv "writes" 913)],
 di #[k P "__module__" 795 (sv "treepool.disks" 786),k P "__firstlineno__" 799 (.int 246 798),k P "__init__" 808 (r 446),k P "sectors" 815 (r 453),k P "want" 824 (r 460),k P "read" 837 (r 467),k P "write" 848 (r 474),k P "put" 857 (r 481),k P "flush" 866 (r 488),k P "pending" 873 (r 495),k P "crash" 881 (r 502),k P "crash_after" 889 (r 509),k P "harm" 899 (r 516),k P "copy_to" 907 (r 523),k P "__static_attributes__" 914 (r 524),k P "__dict__" 916 (r 527),k P "__weakref__" 918 (r 528),k P "__doc__" 919 .none] 4,
 ⟨(.type "type"),none,.cls ⟨"Disk", [(.type "object")], [(r 526),(.type "object")],525,"Disk",true, [], [],false,none,false⟩, #[none,none,some (sv "Disk" 788),some (sv "Disk" 796),some (.builtin "object.__new__"),some (.bool true)]⟩,
 ⟨(.type "getset_descriptor"),none,.fields #[(sv "__dict__" 915),(r 526),(.builtin "function.__dict__"),(.builtin "function.__dict__#set")], #[]⟩,
 ⟨(.type "getset_descriptor"),none,.fields #[(sv "__weakref__" 917),(r 526),(.builtin "ExceptionGroup.__weakref__"),.none], #[]⟩,
 ⟨(.type "super"),none,.fields #[(r 526),(r 526),(r 526)], #[]⟩,
 bf "object.__init_subclass__" (r 526),
 bX,
 z0,
 fu (st 55) "found_disks",
 cg "found_disks" "found_disks" 924 316 2 3 531 true 181 [(r 532),.none,.none,.none,(r 533)] 927,
 ff (st 55) "found_disks" "treepool.poolopen" 922 534 3,
 bX,
 z0,
 tu #[(sv "script" 935),(sv "at" 936)],
 bX,
 fu (st 57) "_law_cell",
 cf "_law_cell" "_law_cell" 932 334 2 536 937,
 ff (st 57) "_law_cell" "law_pb0586_01" 930 541 3,
 bX,
 z0,
 fu (st 58) "_law_plans",
 cg "_law_plans" "_law_plans" 940 336 2 3 543 true 181 [(r 544),.none,.none,.none,(r 545)] 943,
 ff (st 58) "_law_plans" "law_pb0586_01" 930 546 3,
 bX,
 z0,
 tu #[(sv "script" 949),(sv "a" 950),(sv "b" 951),(sv "c" 952),(sv "first" 953),(sv "second" 954)],
 bX,
 fu (st 59) "_law_configs",
 cf "_law_configs" "_law_configs" 946 341 1 548 955,
 ff (st 59) "_law_configs" "law_pb0586_01" 930 553 3,
 bX,
 z0,
 tu #[(sv "disk" 961),(sv "begin" 962),(sv "at" 963),(sv "step" 964),(sv "place" 965)],
 bX,
 fu (st 60) "_law_harm"]
noncomputable def Sk(P:Params):List Obj:= [
 cf "_law_harm" "_law_harm" 958 346 4 555 966,
 ff (st 60) "_law_harm" "law_pb0586_01" 930 560 3,
 bX,
 z0,
 tu #[(sv "shape" 972),(sv "configs" 973),(sv "x" 974),(sv "disk" 975),(sv "which" 976),(sv "number" 977),(sv "config" 978),(sv "y" 979),(sv "end" 980),(sv "at" 981),(sv "step" 982)],
 bX,
 fu (st 61) "_law_disk",
 cf "_law_disk" "_law_disk" 969 349 3 562 983,
 ff (st 61) "_law_disk" "law_pb0586_01" 930 567 3,
 bX,
 z0,
 tu #[(sv "disk" 989),(sv "shape" 990),(sv "octets" 991)],
 bX,
 fu (st 62) "_law_told",
 cf "_law_told" "_law_told" 986 362 2 569 992,
 ff (st 62) "_law_told" "law_pb0586_01" 930 574 3,
 bX,
 z0,
 fu (st 63) "law",
 cg "law" "law" 995 365 1 3 576 true 181 [(r 577),.none,.none,.none,(r 578)] 998,
 ff (st 63) "law" "law_pb0586_01" 930 579 3]
noncomputable def HL(P:Params):Heap:=⟨⟨(hl0 P++(Hg P++(AY P++(Pw P++(hl4 P++(hl5 P++(hl6 P++(hl7 P++(hl8 P++(Kh P++(Sf P++(Sh P++(Si P++(Sj P++(Sk P)))))))))))))))⟩,(boot_heap P).life⟩
end
section
set_option maxHeartbeats 8000000
noncomputable abbrev bT:List Stmt:=behindTheImports PP
noncomputable abbrev e0:Env:= {scope:=PP.main.scope,locals:=mainNs,globals:=mainNs,cells:= [],code:= .ref 13,frame:=some 14}
noncomputable abbrev cT:Code:= .body bT e0
noncomputable abbrev pz:Pos:=⟨0,0,0,0⟩
noncomputable def Px(f:Nat->Obj):Nat->Nat->Nat->Nat->BT
 |0,_,_,_=> .nil
 |d+1,n,s,o=>match Nat.blt o n with
  |true=> .node (f o) (Px f d n (2*s) (o+s)) (Px f d n (2*s) (o+2*s))
  |false=> .nil
noncomputable def ob(P:Params)(i:Nat):Obj:=(([hl0 P,Hg P,AY P,Pw P,hl4 P,hl5 P,hl6 P,hl7 P,hl8 P,Kh P,Sf P,Sh P,Si P,Sj P,Sk P]:List (List Obj)).getD (i/40) []).getD (i % 40) default
noncomputable abbrev S5(w:World)(os:OsState):Shared:= {heap:=HL w.params,toks:=1001,os:=os}
noncomputable def Sd(w:World)(os:OsState)(n t N:Nat)(x:Str)(u M:Nat)(c:List (Nat×Obj)):SharedT:=
 ⟨((c.foldl (fun T x=>T.set x.1 fun O=>x.2) (Px (ob w.params) 11 n 1 0)).set 3 fun O=>di (k w.params "__name__" 165 (sv x u)::((mE w.params).drop 1).take N).toArray (N+1)).set 12 fun O=>zf (lF.take M).toArray,n,(boot_heap w.params).life, #[],{},t,os⟩
noncomputable abbrev an:Option Value:=some (.ref 6)
noncomputable abbrev tF:List Frame:= [topFrame pz]
noncomputable abbrev T0(w:World)(os:OsState):SharedT:=Sd w os 15 187 8 "__main__" 164 0 [(2,⟨.none,none,.dict #[] 0, #[]⟩)]
noncomputable abbrev T1(w:World)(os:OsState):SharedT:=Sd w os 78 273 13 "treepool.faults" 194 15 []
noncomputable abbrev T2(w:World)(os:OsState):SharedT:=Sd w os 197 423 19 "treepool.octets" 273 33 []
noncomputable abbrev T3(w:World)(os:OsState):SharedT:=Sd w os 329 615 38 "treepool.shape" 613 75 []
noncomputable abbrev T4(w:World)(os:OsState):SharedT:=Sd w os 531 922 55 "treepool.disks" 786 117 []
noncomputable abbrev T5(w:World)(os:OsState):SharedT:=⟨Px (ob w.params) 11 581 1 0,581,(boot_heap w.params).life, #[],{},1001,os⟩
noncomputable abbrev l1:List Stmt:=(bT.drop 0).take 6
noncomputable abbrev l2:List Stmt:=(bT.drop 6).take 7
noncomputable abbrev l3:List Stmt:=(bT.drop 13).take 21
noncomputable abbrev l4:List Stmt:=(bT.drop 34).take 20
noncomputable abbrev l5:List Stmt:=(bT.drop 54).take 10
theorem Ub:bT=l1++(l2++(l3++(l4++(l5++ [])))):=by kernel_rfl
section
variable(w:World)(os:OsState)
theorem g0:topGo treeTable PP w 11 an 12 ⟨boot_heap w.params, #[],boot_drawn,boot_toks,os⟩ (topStub PP)=some ((T0 w os).abs,⟨denote treeTable cT,cT,pz,tF⟩):=by kernel_rfl
theorem gb:segRunT treeTable PP w 11 an 1 1 (T0 w os) (blockOf bT e0 cT pz tF)=some (.next,T0 w os,cT,pz):=by kernel_rfl
abbrev Pc(n:Nat)(s s2:SharedT)(l:List Stmt)(p q:Pos):Prop:=segRunT treeTable PP w 11 an 1 n s (piecesOf l e0 cT p tF)=some (.next,s2,cT,q)
theorem p1:Pc w 906 (T0 w os) (T1 w os) l1 pz ⟨14,0,15,8⟩:=by kernel_rfl
theorem p2:Pc w 817 (T1 w os) (T2 w os) l2 ⟨14,0,15,8⟩ ⟨50,0,70,53⟩:=by kernel_rfl
theorem p3:Pc w 937 (T2 w os) (T3 w os) l3 ⟨50,0,70,53⟩ ⟨183,0,183,8⟩:=by kernel_rfl
theorem p4:Pc w 1263 (T3 w os) (T4 w os) l4 ⟨183,0,183,8⟩ ⟨246,0,314,16⟩:=by kernel_rfl
theorem p5:Pc w 264 (T4 w os) (T5 w os) l5 ⟨246,0,314,16⟩ ⟨365,0,388,62⟩:=by kernel_rfl
theorem gf:topRun treeTable PP w 11 an 2 (T5 w os).abs ⟨doneF .next,cT,⟨365,0,388,62⟩,tF⟩=some (S5 w os):=by kernel_rfl
theorem L3:topRun treeTable PP w 11 an (12+(1+(906+(817+(937+(1263+(264+(2)))))))) ⟨boot_heap w.params, #[],boot_drawn,boot_toks,os⟩ (topStub PP)=some (S5 w os):=
 go_top (g0 w os) (piece_block (segRun_of (gb w os)) ((congrArg (fun l=>topRun treeTable PP w 11 an _ (T0 w os).abs (restOf l e0 cT pz tF)) Ub).trans (piece_app (segRun_of (p1 w os)) (piece_app (segRun_of (p2 w os)) (piece_app (segRun_of (p3 w os)) (piece_app (segRun_of (p4 w os)) (piece_app (segRun_of (p5 w os)) (piece_nil (gf w os)))))))))
end
end
section
set_option maxHeartbeats 8000000
noncomputable abbrev pY:List Addr:= [2,3,15,17,18,20,21,22,29,31,32,34,35,36,37,38,39,42,49,50,51,54,61,62,63,66,73,74,75,78,81,82,83,86,87,88,91,92,93,96,97,105,107,108,110,111,112,114,115,117,118,119,121,122,124,125,126,128,129,131,132,133,135,136,138,139,140,141,142,143,144,154,155,157,158,160,161,162,164,165,167,168,169,171,172,174,175,176,178,179,181,182,183,185,186,188,189,190,191,192,193,194,197,199,200,202,203,211,212,213,215,216,218,219,220,223,224,225,226,227,228,229,239,240,242,243,245,246,247,250,251,252,253,254,255,256,259,261,262,264,265,266,268,269,271,272,273,275,276,278,279,280,283,284,285,287,288,290,291,292,293,296,297,298,300,301,303,304,305,307,308,310,311,312,314,315,317,318,319,322,323,324,327,328,336,337,339,340,342,343,344,345,346,347,348,351,353,354,356,357,358,360,361,363,364,365,367,368,370,371,372,374,375,377,378,379,381,382,384,385,386,389,390,391,393,394,396,397,398,400,401,403,404,405,407,408,410,411,412,414,415,417,418,419,421,422,424,425,426,428,429,431,432,440,442,443,445,446,447,449,450,452,453,454,456,457,459,460,461,463,464,466,467,468,470,471,473,474,475,477,478,480,481,482,484,485,487,488,489,491,492,494,495,496,498,499,501,502,503,505,506,508,509,510,512,513,515,516,517,519,520,522,523,524,525,526,527,528,531,534,535,536,538,539,541,542,543,546,547,548,550,551,553,554,555,557,558,560,561,562,564,565,567,568,569,571,572,574,575,576,579,580]
noncomputable abbrev KL(P:Params):Frag:=pY.map fun a=>(a,(HL P).objs.toList.getD a default)
theorem Ki(P:Params):pY=(KL P).map (·.1):=by kernel_rfl
noncomputable abbrev v9:=kHook KL pY Ki
noncomputable abbrev yR:Program:=view PP [0,2,3,4,5,7,8,9,10,11,12,13,15,16,17,18,19,20,21,22,23,24,25,26,28,29,30,31,32,34,35,37,38,39,40,41,42,43,44,45,46,47,49,50,51,53,55,57,58,59,60,61,62,63]
noncomputable abbrev uV:List Str:= [Str.ofString "NUMBERS",Str.ofString "Node",Str.ofString "config_of_plans"]
noncomputable abbrev ac0(s:Shared):Bool:=xlAt yR [(Str.ofString "NUMBERS",WData.int 4294967296)] s&&recOk Challenge.rw_pb0586_01.row.records s
noncomputable abbrev pL:Program:=Challenge.rw_pb0586_01.row.prog
theorem lo1:namesResolve pL=true:=by kernel_rfl
theorem lo2:noRoadLSs {strict:= !(importedModules pL.main.body).all cThrough.contains,foot:=none,bare:=(["vars","dir","locals"]:List Str).filter (readsOut pL pL.main.body)} pL.main.body=true:=by kernel_rfl
theorem lo3:(namesMeet pL pL.main.body fun O n=>attrL n)=true:=by kernel_rfl
theorem lo:looksOpen pL=true:=by
 delta looksOpen;rw [lo1,lo2,lo3]
 kernel_rfl
theorem sr:Challenge.rw_pb0586_01.row.wellSaid=true:=by
 delta OpenRow.wellSaid OpenRow.partSaid;rw [lo]
 kernel_rfl
theorem Uc:Challenge.rw_pb0586_01.wellSaid=true:=by
 delta OpenLaw.wellSaid;rw [sr]
 kernel_rfl
theorem h40:(chainsOk yR&&opensWell Challenge.rw_pb0586_01.row.prog&&(frees Challenge.rw_pb0586_01.row.toRowW&&Challenge.rw_pb0586_01.row.within.isEmpty))=true:=by kernel_rfl
theorem h41:Challenge.rw_pb0586_01.row.prog.tablesWhole=true:=by kernel_rfl
theorem h42:opening PP=plainProg PP.main.scope.names:=by kernel_rfl
theorem h43:∀s:Shared,fenceModules? PP s=some s:=fun s=>by kernel_rfl
theorem ac1(w:World):((boot_heap w.params).isNs mainGlobals&&(#[]:Array GenState).size==0,(boot_heap w.params).objs.size,(boot_heap w.params).nsMap mainGlobals (Str.ofString "__annotations__"))=(true,11,some (Value.ref 6)):=by kernel_rfl
theorem ac2:Challenge.rw_pb0586_01.row.claim.pre [WData.list []]=true:=by kernel_rfl
theorem ac3:(WData.layableAll [WData.list []]&&Challenge.rw_pb0586_01.row.returnsAt [WData.list []])=true:=by kernel_rfl
section
variable(w:World)(os:OsState)
theorem lk0:(staticsOk (importedModules PP.main.body) (boot_heap w.params) (HL w.params))=true:=by kernel_rfl
theorem lk1:(namesBound PP (HL w.params))=true:=by kernel_rfl
theorem lk2:(gensDone (S5 w os))=true:=by kernel_rfl
theorem lk3:(laidKept (boot_heap w.params) (HL w.params))=true:=by kernel_rfl
theorem Py:(staticsOk (importedModules PP.main.body) (boot_heap w.params) (HL w.params)&&namesBound PP (HL w.params)&&gensDone (S5 w os)&&laidKept (boot_heap w.params) (HL w.params))=true:=by rw [lk0,lk1,lk2,lk3];rfl
theorem Pz:openSeen yR uV (importedModules PP.main.body) ac0 true (S5 w os)=openGood yR uV:=by kernel_rfl
theorem Kj(P:Params):pY.all (fun a=>Nat.blt a (HL P).objs.toList.length)=true:=by kernel_rfl
theorem Hi(P:Params):(HL P).objs.toList.all (fun o=>(alive o).isSome)=true:=by kernel_rfl
theorem Hj{h:Heap}{a:Addr}{o:Obj}(e:h.objs[a]? =some o)(k:(alive o).isSome=true):h.get? a=some o:=by
 delta Heap.get?;rw [e];obtain⟨c,d,dt,sl⟩:=o;cases dt <;> first|rfl|cases k
theorem PA:v9.obs (S5 w os)=v9.val w:=by
 show pY.map (HL w.params).get?=(pY.map fun a=>(a,(HL w.params).objs.toList.getD a default)).map fun p=>some p.2;rw [List.map_map];refine List.map_congr_left fun a ha=> ?_;have hl:a<(HL w.params).objs.toList.length:=iZ (List.all_eq_true.mp (Kj w.params) a ha);have hb:=List.all_eq_true.mp (Hi w.params) _ (List.getElem_mem hl);generalize (HL w.params)=h at hl hb;have e:h.objs[a]? =some h.objs.toList[a]:=by rw [<- Array.getElem?_toList];exact iq hl
 show h.get? a=some (h.objs.toList.getD a default);rw [pj,iq hl];exact Hj e hb
end
end
section
variable {c:Code}{R:Result->Shared->Prop}{Q:Unit->Shared->Prop}
noncomputable def pZ:List String:= ["bytearray.__contains__","bytearray.__mod__","bytearray.__rmod__","_struct.pack_into.held","bytearray.find.held"]++Builtin.Bytes.decodersThatHold
set_option backward.match.sparseCases false in
noncomputable def jZ:Code->Bool
 | .builtin id _=> !pZ.contains id
 |_=>true
structure Cz (Γ:PySem.Ctx):Prop where
 code:jZ Γ.code=true
 below:∀cp∈Γ.below,jZ cp.1=true
def ay{α:Type}(s:Shared)(E:Value->Shared->Prop)(A:Around)(M:Model)(Q:α->Shared->Prop)(t:Sem α):Prop:=
 ∀Γ p,Γ.In A->Cz Γ->Sem.wp M Γ t (fun a O s'=>Q a s') (fun e O s'=>E e s') p s
def cQ(M:Model)(A:Around)(c:Code)(R:Result->Shared->Prop)(s:Shared):Prop:=
 ∀Γ p,Γ.code=c->Γ.Below A->(∀cp∈Γ.below,jZ cp.1=true)->wpCode M Γ R p s
section
variable {α β:Type}{M:Model}{A:Around}{E:Value->Shared->Prop}{s:Shared}
theorem aj{t:Sem α}{Q:α->Shared->Prop}(h:wpAny M A t Q E s):ay s E A M Q t:=fun Γ p hΓ O=>h Γ p hΓ
theorem Kk(h:codeAny M A c R s):cQ M A c R s:=fun Γ p hc hΓ O=>h Γ p hc hΓ
theorem ax{a:α}{Q:α->Shared->Prop}(h:Q a s):ay s E A M Q (pure a):=aj (cP h)
theorem au{t:Sem α}{Q Q':α->Shared->Prop}{E':Value->Shared->Prop}(h:ay s E A M Q t)(hQ:∀a s,Q a s->Q' a s)(hE:∀e s,E e s->E' e s):ay s E' A M Q' t:=
 fun Γ p hΓ hc=>Sem.wp_mono M Γ t (fun a O s=>hQ a s) (fun e O s=>hE e s) p s (h Γ p hΓ hc)
theorem yS{t:Sem α}{Q:α->Shared->Prop}(h:∀(Q':α->Shared->Prop) (E':Value->Shared->Prop),(∀a s,Q a s->Q' a s)->(∀e s,E e s->E' e s)->ay s E' A M Q' t):ay s E A M Q t:=h Q E (fun O O q=>q) fun O O q=>q
theorem Kl{t:Sem α}{Q:α->Shared->Prop}(h:∀Q':α->Shared->Prop,(∀a s,Q a s->Q' a s)->ay s E A M Q' t):ay s E A M Q t:=h Q fun O O q=>q
theorem af{m:Sem α}{f:α->Sem β}{Q:β->Shared->Prop}(h:ay s E A M (fun a s'=>ay s' E A M Q (f a)) m):ay s E A M Q (m >>= f):=fun Γ p hΓ hc=>by
 rw [Sem.wp_bind'];exact Sem.wp_mono M Γ m (fun a p' s' h'=>h' Γ p' hΓ hc) (fun O O O h'=>h') p s (h Γ p hΓ hc)
theorem kK{m:Sem α}{k:Value->Sem Unit}{Q:α->Shared->Prop}(h:ay s (fun e s'=>ay s' E A M (fun O kL=>E e kL) (k e)) A M Q m):ay s E A M Q (m.onRaise k):=fun Γ p hΓ hc=>by
 rw [Sem.wp_onRaise];exact Sem.wp_mono M Γ m (fun O O O h'=>h') (fun e p' s' h'=>h' Γ p' hΓ hc) p s (h Γ p hΓ hc)
theorem uW{m:Sem α}{Q:Except Value α->Shared->Prop}(h:ay s (fun e=>Q (.error e)) A M (fun a=>Q (.ok a)) m):ay s E A M Q m.attempt:=fun Γ p hΓ hc=>by rw [Sem.wp_attempt];exact h Γ p hΓ hc
theorem aK{vs:List Value}{m:Sem α}{Q:α->Shared->Prop}(h:ay s E A M Q m):ay s E A M Q (holding vs m):=fun Γ p hΓ hc=>by rw [Sem.wp_holding];exact h Γ p hΓ hc
theorem ko{tag:String}(h:Q () s):ay s E A M Q (rule tag):=aj (wpAny_rule h)
theorem bx{pos:Pos}(h:Q () s):ay s E A M Q (standAt pos):=aj (wpAny_standAt h)
theorem yT(h:Q () s):ay s E A M Q point:=aj (wpAny_point h)
theorem cR{m:Sem α}{a:α}{Q:α->Shared->Prop}(e:m=pure a)(h:Q a s):ay s E A M Q m:=aj (wpAny_of_eq e h)
theorem gB{R':Result->Shared->Prop}(h:cQ M A c R s)(hR:∀r s,R r s->R' r s):cQ M A c R' s:=
 fun Γ p hc hΓ hb=>wpCode_mono hR (h Γ p hc hΓ hb)
theorem uX{Γ:PySem.Ctx}{hd:Option Value}{p:Pos}(h:Cz Γ):∀cp∈(Γ.enter c hd p).below,jZ cp.1=true:=fun cp hcp=>by
 rcases List.mem_cons.mp (show cp∈(Γ.code,p)::Γ.below from hcp) with rfl|hm
 ·exact h.code
 ·exact h.below cp hm
theorem EF{h:Option Value}{Q:Flow->Shared->Prop}(hc:cQ M (A.mark h) c (fun r s'=>match r with| .ok f=>Q f s'| .error e=>E e s') s)(hnb:h≠some byPass:=by intro x;cases x):
  ay s E A M Q (run c h):=fun Γ p hΓ fZ=>by rw [Sem.wp_run];exact hc _ p rfl (hΓ.enter c h p hnb) (uX fZ)
theorem AZ{Q:Value->Shared->Prop}(hc:cQ M A c (fun r s'=>match r with| .ok (.ret v)=>Q v s'| .ok _=>False| .error e=>E e s') s):
  ay s E A M Q (runValue c):=fun Γ p hΓ fZ=>by rw [Sem.wp_runValue];exact hc _ p rfl (hΓ.enter c none p (by intro x;cases x)) (uX fZ)
theorem iJ{f:Value}{pos:List Value}{kw:List (Str×Value)}{Q:Value->Shared->Prop}(hc:cQ M A (.call f ⟨pos,kw⟩) (fun r s'=>match r with| .ok (.ret v)=>Q v s'| .ok _=>False| .error e=>E e s') s):
  ay s E A M Q (call f pos kw):=AZ hc
theorem dG(fZ:jZ c=true)
  (h:ay s (fun e s'=>R (.error e) s') (A.under c) M (fun fin s'=>match fin with| .done f=>R (.ok f) s'| .again c'=>c'.quiet=true/\cQ M A c' R s') (M.den c)):cQ M A c R s:=fun Γ p hc hΓ hb=>by
 rw [wpCode_iff_wp,hc];refine Sem.wp_mono M Γ _ (fun fin p' s' h'=> ?_) (fun O O O h'=>h') p s (h Γ p (hc▸hΓ.in) ⟨hc▸fZ,hb⟩);cases fin with
 |done f=>exact h'
 |again c'=>exact⟨h'.1,h'.2 (Γ.goto c') p' rfl (hΓ.goto c') hb⟩
theorem EG(fZ:jZ c=true)(hq:c.quiet=true)(I:Nat->Shared->Prop)
  (turn:∀n s,I n s->ay s (fun e s'=>R (.error e) s') (A.under c) M (fun fin s'=>match fin with| .done f=>R (.ok f) s'| .again c'=>c'=c/\∃m,m<n/\I m s') (M.den c))
  (n:Nat)(h:I n s):cQ M A c R s:=by
 induction n using Nat.strongRecOn generalizing s with
 |ind n ih=>
  refine dG fZ (au (turn n s h) (fun fin s' hf=> ?_) fun O O h'=>h');cases fin with
  |done f=>exact hf
  |again c'=>obtain⟨rfl,m,hm,hI⟩:=hf;exact⟨hq,ih m hm hI⟩
theorem A0{v:Value}{Q:Bool->Shared->Prop}(h:Q false s):ay s E A M Q (Builtin.Bytes.exported v):=fun Γ p hΓ hc=>by
 have hb:∀b,b=false->Q b s:=fun O e=>e▸h;refine hb (((Γ.code,p)::Γ.below).any _) (List.any_eq_false.mpr fun cp hm=> ?_);have h1:jZ cp.1=true:=(List.mem_cons.mp hm).elim (fun e=>e▸hc.code) (hc.below cp);refine Bool.eq_false_iff.mp ?_;obtain⟨c,q⟩:=cp;clear hm hb h hc hΓ;cases c with
 |builtin id args=>
  have ne:∀x,pZ.contains x=true->id≠x:=fun x hx e=>by
   have h1:(!pZ.contains id)=true:=h1;rw [e,hx] at h1;exact Bool.noConfusion h1
  delta Builtin.Bytes.exported.match_1 Builtin.Bytes.exported._sparseCasesOn_1;dsimp only;refine(dif_neg (ne "bytearray.__contains__" (by decide +kernel))).trans ?_;refine(dif_neg (ne "bytearray.__mod__" (by decide +kernel))).trans ?_;refine(dif_neg (ne "bytearray.__rmod__" (by decide +kernel))).trans ?_;refine(dif_neg (ne "_struct.pack_into.held" (by decide +kernel))).trans ?_;refine(dif_neg (ne "bytearray.find.held" (by decide +kernel))).trans ?_;obtain⟨_|⟨u,l⟩,kw⟩:=args
  ·rfl
  ·refine(congrArg (Builtin.Bytes.sameRef u v&& ·) (Bool.eq_false_iff.mpr fun hx=>ne id ?_ rfl)).trans (Bool.and_false _);exact List.contains_iff_mem.mpr (List.mem_append_right _ (List.contains_iff_mem.mp hx))
 |_=>rfl
end
end
section
variable {w:World}{s:Shared}
theorem A1:Cz (⟨.builtin "claim.caller" {},none,none, [],none⟩:PySem.Ctx):=⟨by decide +kernel,fun O h=>nomatch h⟩
theorem CD{prog:Program}{t:Sem PySem.Fin}{R:Result->Shared->Prop}(hz:s.asleep)
  (h:ay s (fun e s'=>R (.error e) s'/\AllBare s'.gens) callerA (model prog w) (fun fin s'=>∃f,fin= .done f/\(R (.ok f) s'/\AllBare s'.gens)) t):
  ∃n r s' kL,runN (denote table) prog w n s ⟨t,.builtin "claim.caller" {},default, []⟩= .halted (outcomeOf r) s'/\
   schedN (denote table) prog w n (.single s ⟨t,.builtin "claim.caller" {},default, []⟩)= .halted (outcomeOf r) s'/\s'.forget=kL.forget/\R r kL:=by
 have h2:Sem.wp (model prog w) ⟨.builtin "claim.caller" {},none,none, [],none⟩ t (Sem.finPost (model prog w) ⟨.builtin "claim.caller" {},none,none, [],none⟩ fun r s'=>R r s'/\leftWithCleanup s'.gens=false)
   (fun e O s'=>R (.error e) s'/\leftWithCleanup s'.gens=false) default s:=by
  refine Sem.wp_mono _ _ t (fun fin p' s' q=> ?_) (fun e O s' q=>⟨q.1,leftWithCleanup_false_of_bare q.2⟩) default s (h _ default caller_in A1);obtain⟨f,rfl,q1,q2⟩:=q;exact⟨q1,leftWithCleanup_false_of_bare q2⟩
 obtain⟨n,r,s₁,s₂,a,b,c,d⟩:=wp_halts_full (M:=model prog w) (R:=R) hz h2;exact⟨n,r,s₂,s₁,b,a,c,d⟩
theorem EH{c:ClaimW}{tree:List Value->Sem PySem.Fin}{free:Addr->Prop}{gens:Prop}{kept:Heap->Prop}(hz:s.asleep)(rJ:s.gens= #[])
  (Ud:∀args,c.pre args=true->WData.layableAll args=true->∀ord:List DictEntry->List DictEntry,(∀l,(ord l).Perm l)->
   ∃vs s₁,layAllW c.records (classAt s.heap) w.params ord args s=some (vs,s₁)/\
    ay s₁ (fun e s'=>(c.Ends s args vs s₁ (.error e) s'/\s'.os=s.os/\kept s'.heap)/\AllBare s'.gens) callerA (model c.prog w) (fun fin s'=>∃f,fin= .done f/\((c.Ends s args vs s₁ (.ok f) s'/\s'.os=s.os/\kept s'.heap)/\AllBare s'.gens)) (tree vs)):
  c.CallFrom (fun vs=>⟨tree vs,.builtin "claim.caller" {},default, []⟩) w free gens kept s:=by
 intro args yU EI ord Je;refine az fun zG=> ?_;obtain⟨vs,s₁,rK,qn⟩:=Ud args yU EI ord Je;have L5:=layAllW_rest _ _ _ rK;obtain⟨k,r,s',kL,ac5,PB,hfo,yV,Km,CG⟩:=CD (R:=fun r s'=>c.Ends s args vs s₁ r s'/\s'.os=s.os/\kept s'.heap) (Shared.asleep_of_life L5.2.2.2 hz) qn;obtain⟨eh,_,_,eo,_⟩:=Shared.forget_eq hfo;refine zG ⟨vs,s₁,rK,k,_,s',PB,(yV.congr eh).imp (fun h=>h.elim fun v q=>⟨v,congrArg outcomeOf q.1,q.2.1,q.2.2.1,q.2.2.2.1,fun b o y O=>q.2.2.2.2.1 b o y,q.2.2.2.2.2⟩)
  (fun h=>h.elim fun e h=>h.elim fun ob h=>h.elim fun cls q=>⟨e,ob,cls,congrArg outcomeOf q.1,q.2.1,q.2.2.1,q.2.2.2.1,q.2.2.2.2.1,fun b o y O=>q.2.2.2.2.2 b o y⟩),(fun O i x hx=>by rw [rJ] at hx;exact nomatch hx),eh▸CG,by rw [(runN_life _ _ _ ac5).trans L5.2.2.2],Shared.rest_eq (eo.trans Km)⟩
abbrev CH(q:Program)(loose:List Str)(XP:(Str->Option Value)->Heap->Prop)(YP:World->Heap->Prop)(r:RowW)(d:DefRec)(CI:List (Str×Expr)):Prop:=
 ∀(w:World) (s₀ s₁:Shared) (mg mb:Str->Option Value),Ground q loose r.records XP w s₀ mg mb s₁.heap->YP w s₁.heap->∀(a:Addr) (o:Obj) (pm cd doc dV kV:Value),s₁.heap.get? a=some o->
  o.data= .func {docDef d.name d.params d.body d.scope pm cd doc with defaults:=dV,kwdefaults:=kV}->s₁.heap.CodeRec cd d.name->Dflts mg s₁.heap d.params CI dV kV->mg d.name=some (.ref a)->s₁.gens= #[]->
  ∀(args:List WData) (vals:List Value) (as:List Addr),r.claim.pre args=true->WData.layableAll args=true->ReadsAllW r.records (classAt s₀.heap) s₁.heap vals args as->WellAll w.params s₁.heap vals args->(∀a∈as,(a==sysModules)=false)->
   cQ (model r.prog w) callerA (.call (.ref a) ⟨vals, []⟩) (GoodWG r.claim (classAt s₀.heap) (ExcName.means s₀.heap) args s₁) s₁
theorem CJ{r:OpenRow}{q:Program}{loose:List Str}{Xt:Shared->Bool}{XP:(Str->Option Value)->Heap->Prop}{α:Type}{Yf:Shared->α}{Ya:World->α}{YP:World->Heap->Prop}{d:DefRec}{CI:List (Str×Expr)}{N:Nat}
  (left:LeftO r.prog q loose Xt Yf Ya N)(hY:∀w s,Yf s=Ya w->YP w s.heap)(hYk:∀w h h',YP w h->(∀b o,h.get? b=some o->h'.get? b=some o)->YP w h')
  (hX:∀s,Xt s=true->XP (s.heap.nsMap mainGlobals) s.heap)(hXk:∀mg h h',XP mg h->(∀b o,h.get? b=some o->h'.get? b=some o)->XP mg h')
  (EJ:defOf q r.name=some (d,CI))(hp:r.prog.theDef r.name=some (d.params,d.body,d.scope))(hk:kwWritten? d.params.kwonlyargs d.params.kw_defaults=some CI)(hRf:∀s,Xt s=true->RecFacts r.records s.heap)(hwr:(!r.writes||r.records.isEmpty)=true)
  (k1:r.wellSaid=true)(ok:(chainsOk q&&opensWell r.prog&&(frees r.toRowW&&r.within.isEmpty))=true)(hb:r.prog.bare)(hw:r.toRowW.promised)
  (call:CH q loose XP YP r.toRowW d CI):r.Holds:=by
 refine az fun zG=> ?_;have ok':=Bool.and_eq_true_iff.mp ok;obtain⟨hch,o1⟩:=Bool.and_eq_true_iff.mp ok'.1;obtain⟨k5,k6⟩:=Bool.and_eq_true_iff.mp ok'.2;obtain⟨Uh,hu,ha,hap,hm⟩:=frees_parts k5;have hwi:r.toRowW.claim.within= []:=List.isEmpty_iff.mp k6;have hi:=ident_freeW hu ha hap;refine zG ⟨k1,hw,⟨hb,o1,by show r.toRowW.makers.map _= [];rw [hm];rfl⟩,hw.witness,fun w=>⟨(left.behind hX hch w).1,fun s' Hl=> ?_⟩⟩;refine az fun zG=> ?_;obtain⟨s₀,hf,hg0,s,hT,hz,rJ,hg,v_,y⟩:=(left.behind (XP:=fun mg h=>XP mg h/\RecFacts r.records h) (fun s hs=>⟨hX s hs,hRf s hs⟩) hch w).2 s' Hl;have G0:Ground q loose [] XP w s (s.heap.nsMap mainGlobals) (s.heap.nsMap builtinsNs) s.heap:=⟨v_.T,v_.B,v_.D,v_.TE,v_.TD,v_.W,v_.X.1,v_.cls,v_.has,v_.apart,v_.once,v_.K⟩;have RF:=v_.X.2;have rJ:s.gens= #[]:=Array.eq_empty_of_size_eq_zero (beq_iff_eq.mp rJ);have G:Ground q loose r.records XP w s _ _ s.heap:=RF.ground G0;refine zG ⟨s₀,hf,hg0,s,hT,fun n hn=> ?_,RF.1,RF.2.1,EH (c:=r.toRowW.claim) (tree:=fun vs=>do match <- nsGet mainNs r.name with
   |some f=>do ret (<- PySem.call f vs)
   |none=>unsupported "claim.caller:no-such-global") hz rJ fun args yU EI ord Je=> ?_⟩
 ·obtain rfl:n=r.name:=by split at hn <;> simp_all
  exact pinned_of_view hg G0 EJ hp hk
 refine az fun zG=> ?_;obtain⟨⟨vs,s₁⟩,rK⟩:=Option.isSome_iff_exists.mp (layAllW_isSome (P:=w.params) (ord:=ord) G.has args r.args s (pre_splitW yU).1);have keeps:=layAllW_keeps _ _ _ rK;have L5:=layAllW_rest _ _ _ rK;obtain⟨as,hrd,yW,hold⟩:=reads_layAllW Je _ _ _ rK EI s₁.heap (fun O O e=>e);have L:Laid r.records w s s₁ args vs as:=⟨⟨ord,Je,rK⟩,hrd,yW,hold,keeps,L5.1.trans rJ,L5.2.2.1⟩;have G₁:=G.keeps hXk keeps;obtain⟨a,o,pm,cd,doc,dV,kV,h1,h2,h3,h4,h5⟩:=G₁.fn EJ;have C:=call w s s₁ _ _ G₁ (hYk _ _ _ (hY w s y) keeps) a o pm cd doc dV kV h2 h3 h4 h5 (defOf_name EJ▸h1) L.gens args vs as yU EI L.reads L.well (L.low G.low);refine zG ⟨vs,s₁,rK,af (aj (wpAny_nsGet G₁.T.g ?_))⟩;rw [h1];refine af (iJ (gB C fun r' s' g=> ?_));have z:=g.laid (c:=r.toRowW.claim) Uh hwi hi L;rcases g.1 with⟨v,_,_,rfl,_⟩|⟨e,_,_,rfl,_⟩
 ·exact ax ⟨_,rfl,⟨z.1,z.2.1,fun q=>⟨namesKept_of hT hg _ keeps g.2.1.old,noTable hwr q⟩⟩,z.2.2⟩
 ·exact⟨⟨z.1,z.2.1,fun q=>⟨namesKept_of hT hg _ keeps g.2.1.old,noTable hwr q⟩⟩,z.2.2⟩
end
section
set_option maxHeartbeats 4000000
theorem hdL{d:DefRec}{CI:List (Str×Expr)}(EJ:defOf yR Challenge.rw_pb0586_01.row.name=some (d,CI))
  (hp:Challenge.rw_pb0586_01.row.prog.theDef Challenge.rw_pb0586_01.row.name=some (d.params,d.body,d.scope))(hk:kwWritten? d.params.kwonlyargs d.params.kw_defaults=some CI)
  (walk:CH yR uV (XL yR [(Str.ofString "NUMBERS",WData.int 4294967296)]) v9.says Challenge.rw_pb0586_01.row.toRowW d CI):Challenge.rw_pb0586_01.Holds:=
 holds_law Uc fun adb=>
  CJ (LeftO.of_pieces (N:=1000000) (boot_open h42 (by decide +kernel) h43) ac1 L3 (by decide +kernel) fun w=>funext fun os=>by rw [show(⟨HL w.params, #[],{},1001,os⟩:Shared)=S5 w os from rfl,Py w os,Pz w os,PA w os])
   v9.of v9.keeps (fun s e=>xl_of s (Bool.and_eq_true_iff.mp e).left) XL.keeps EJ hp hk (fun s e=>recFacts_of (Bool.and_eq_true_iff.mp e).right) (Eq.refl _) adb h40 ⟨rfl,⟨rfl,⟨rfl,⟨rfl,⟨rfl,h41⟩⟩⟩⟩⟩
   (Exists.intro [WData.list []] ⟨ac2,ac3⟩) walk
end
section
variable {body:List Stmt}{Q:Flow->Shared->Prop}{M:Model}{pos:Pos}
section
variable {prog:Program}{w:World}{A:Around}{E:Value->Shared->Prop}{s:Shared}{R:Result->Shared->Prop}{env:Env}
theorem EK
  (h:ay s (fun e s'=>ay s' (fun e' kL=>R (.error e') kL) (A.deeper env) (model prog w) (fun O kL=>R (.error e) kL) (leaving env e)) (A.deeper env) (model prog w) (fun f s'=>R (.ok (.ret (match f with| .ret v=>v|_=> .none))) s') (execs body env)):cQ (model prog w) A (.func body env) R s:=by
 refine dG rfl ?_;show ay s _ (A.deeper env) _ _ (do point;match <- (execs body env).onRaise (leaving env) with| .ret v=>ret v|_=>ret .none);refine af (yT (af (kK (au h (fun f s' h'=> ?_) fun O O h'=>h'))));cases f <;> exact ax h'
theorem rL{a:Addr}{args:Args}{o:Obj}{fd:FuncData}(Hm:A.depth<recursionLimit)(ho:s.heap.get? a=some o)(Kn:o.data= .func fd)
  (Hn:fd.scope.isCoroutine=false)(yX:fd.scope.isGenerator=false)(Ho:fd.body= .stmts body)(Ko:s.heap.CodeRec fd.code fd.qualname)
  (h:ay s (fun e s'=>R (.error e) s') A.in1 (model prog w) (fun binds s₁=>ay s₁ (fun e s'=>R (.error e) s') A.in1 (model prog w) (fun env s₂=>s₂.heap.NoLimit/\cQ (model prog w) A (.func body env) R s₂) (newFunctionEnv fd.scope fd.globals fd.closure binds (fd.qualname++".<locals>.") (some a) fd.code none fd.builtins)) (bindArgs fd args)):cQ (model prog w) A (.call (.ref a) args) R s:=by
 refine dG rfl ?_;show ay s _ A.in1 _ _ (callAny (.ref a) args);refine af (aj (wpAny_load ho ?_));obtain⟨c,oc,vs,tq,hc,hoc,hdc,hq⟩:=Ko;rw [hc] at h;rw [Kn];show ay _ _ _ _ _ (callFunction a fd args);delta callFunction;rw [hc,Hn,yX,Ho];refine af (m:=field (.ref c) 1) (aj (wpAny_field hoc hdc hq (show ay _ _ _ _ _ _ from af (ax ?_))));exact af (au h (fun binds s₁ h₁=>af (au h₁ (fun env s₂ h₂=>af (aj (wpAny_enterFrame h₂.1 Hm (show ay _ _ _ _ _ _ from ax (And.intro rfl h₂.2))))) fun O O h'=>h')) fun O O h'=>h')
theorem cL{st:Stmt}{rest:List Stmt}
  (h:ay s E A M (fun f s'=>match f with| .next=>ay s' E A M Q (execs rest env)|f=>Q f s') (exec st env)):ay s E A M Q (execs (st::rest) env):=fun Γ p hΓ hc=>by
 rw [execs_cons,Sem.wp_bind'];refine Sem.wp_mono M Γ _ (fun f p' s' h'=> ?_) (fun O O O h'=>h') _ _ (h Γ p hΓ hc);cases f <;> first|exact h' Γ p' hΓ hc|exact h'
theorem lC{x:Str}{pos':Pos}{value:Expr}(h:ay s E A M (fun v s₁=>ay s₁ E A M (fun O=>Q .next) (storeName env x v)) (eval value env))
  (hs:swapsWith value (some (.Name x pos')) pos.line env=pure false):ay s E A M Q (exec (.Assign [.Name x pos'] value pos) env):=fun Γ p hΓ hc=>by
 simp only [exec_Assign_Name env x pos' value pos hs,Sem.wp_bind',Sem.wp_cmd_standAt,Sem.wp_bindName,Sem.wp_pure'];exact Sem.wp_mono M Γ _ (fun v O s₁ h₁=>h₁ Γ _ hΓ hc) (fun O O O h'=>h') _ _ (h Γ _ hΓ hc)
theorem CK{test:Expr}{orelse:List Stmt}
  (h:ay s E A M (fun b s₂=>if b then ay s₂ E A M Q (execs body env) else ay s₂ E A M Q (execs orelse env)) (PySem.isTrue test env (eval test env))):ay s E A M Q (exec (.If test body orelse pos) env):=fun Γ p hΓ hc=>by
 simp only [exec_If,Sem.wp_bind',Sem.wp_cmd_standAt];refine Sem.wp_mono M Γ _ (fun b p₂ s₂ h₂=> ?_) (fun O O O h'=>h') _ _ (h Γ _ hΓ hc);cases b <;> exact h₂ Γ p₂ hΓ hc
theorem p6{e:Expr}(h:ay s E A M (fun v=>Q (.ret v)) (eval e env)):ay s E A M Q (exec (.Return (some e) pos) env):=fun Γ p hΓ hc=>by
 simp only [exec_Return_some,Sem.wp_bind',Sem.wp_cmd_standAt,Sem.wp_pure'];exact h Γ _ hΓ hc
end
end
section
variable {Q:Value->Shared->Prop}{l r x:Expr}{pos:Pos}{op:CmpOp}{whole:Sem Value}{rest:List Expr}
section
variable {M:Model}{A:Around}{E:Value->Shared->Prop}{s:Shared}{env:Env}
theorem qo{vs:List Value}{m:Sem Value}(h:ay s E A M Q m):ay s E A M Q (operate vs m):=fun Γ p hΓ hc=>by
 rw [Sem.wp_operate];exact h Γ p hΓ hc
theorem Hq{op:Operator}(h:ay s E A M (fun a s₁=>ay s₁ E A M (fun b s₂=>ay s₂ E A M Q (binaryOp op a b)) (eval r env)) (eval l env)):
  ay s E A M Q (eval (.BinOp l op r pos) env):=fun Γ p hΓ hc=>by
 simp only [eval_BinOp,Sem.wp_bind',Sem.wp_holding,Sem.wp_cmd_standAt,Sem.wp_operate];exact Sem.wp_mono M Γ _ (fun a p₁ s₁ h₁=>Sem.wp_mono M Γ _ (fun b O s₂ h₂=>h₂ Γ _ hΓ hc) (fun O O O h'=>h') _ _ (h₁ Γ p₁ hΓ hc)) (fun O O O h'=>h') _ _ (h Γ p hΓ hc)
theorem tQ(h:ay s E A M (fun a s₁=>ay s₁ E A M (fun b s₂=>ay s₂ E A M Q (compareOp op a b)) (eval r env)) (eval l env))
  (hm:behindInMarks op r=false):ay s E A M Q (eval (.Compare l [op] [r] pos) env):=fun Γ p hΓ hc=>by
 simp only [eval_Compare1,markedBehindIn_of_false hm,Sem.wp_bind',Sem.wp_holding,Sem.wp_cmd_standAt,Sem.wp_operate];exact Sem.wp_mono M Γ _ (fun a p₁ s₁ h₁=>Sem.wp_mono M Γ _ (fun b O s₂ h₂=>h₂ Γ _ hΓ hc) (fun O O O h'=>h') _ _ (h₁ Γ p₁ hΓ hc)) (fun O O O h'=>h') _ _ (h Γ p hΓ hc)
theorem rM{Q:Bool->Shared->Prop}(h:ay s E A M (fun a s₁=>ay s₁ E A M (fun b s₂=>ay s₂ E A M (fun c s₃=>ay s₃ E A M Q (truthy c)) (compareOp op a b)) (eval r env)) (eval l env))(hm:behindInMarks op r=false):ay s E A M Q (PySem.isTrue (.Compare l [op] [r] pos) env whole):=fun Γ p hΓ hc=>by
 simp only [isTrue_Compare1,markedBehindIn_of_false hm,Sem.wp_bind',Sem.wp_holding,Sem.wp_cmd_standAt,Sem.wp_operate];exact Sem.wp_mono M Γ _ (fun a p₁ s₁ h₁=>Sem.wp_mono M Γ _ (fun b O s₂ h₂=>Sem.wp_mono M Γ _ (fun c p₃ s₃ h₃=>h₃ Γ p₃ hΓ hc)
  (fun O O O h'=>h') _ _ (h₂ Γ _ hΓ hc)) (fun O O O h'=>h') _ _ (h₁ Γ p₁ hΓ hc)) (fun O O O h'=>h') _ _ (h Γ p hΓ hc)
theorem uZ{e:Expr}{Q:Bool->Shared->Prop}(h:ay s E A M (fun v s₁=>ay s₁ E A M Q (truthy v)) whole)
  (he:PySem.isTrue e env whole=(do let v <- whole;standAt e.pos;holding [v] (truthy v))):ay s E A M Q (PySem.isTrue e env whole):=by
 rw [he];exact af (au h (fun v s₁ h₁=>af (bx (aK h₁))) fun O O x=>x)
theorem uf{op:BoolOp}{values:List Expr}{Q:Bool->Shared->Prop}(h:ay s E A M Q (allTrue op values env)):ay s E A M Q (PySem.isTrue (.BoolOp op values pos) env whole):=by
 rw [arm_isTrue_BoolOp];exact h
theorem rq{Q:Bool->Shared->Prop}
  (h:ay s E A M (fun b s₁=>if b then ay s₁ E A M Q (allTrue .And rest env) else Q false s₁) (PySem.isTrue x env (eval x env))):ay s E A M Q (allTrue .And (x::rest) env):=by
 show ay s E A M Q (do match BoolOp.And, <- PySem.isTrue x env (eval x env) with| .And,false=>pure false| .Or,true=>pure true|_,_=>allTrue .And rest env);refine af (au h (fun b s₁ h₁=> ?_) fun O O x=>x);cases b
 ·exact ax h₁
 ·exact h₁
theorem rO{Q:Bool->Shared->Prop}
  (h:ay s E A M (fun b s₁=>if b then Q true s₁ else ay s₁ E A M Q (allTrue .Or rest env)) (PySem.isTrue x env (eval x env))):ay s E A M Q (allTrue .Or (x::rest) env):=by
 show ay s E A M Q (do match BoolOp.Or, <- PySem.isTrue x env (eval x env) with| .And,false=>pure false| .Or,true=>pure true|_,_=>allTrue .Or rest env);refine af (au h (fun b s₁ h₁=> ?_) fun O O x=>x);cases b
 ·exact h₁
 ·exact ax h₁
theorem Hr{t b o:Expr}(h:ay s E A M (fun c s₁=>if c then ay s₁ E A M Q (eval b env) else ay s₁ E A M Q (eval o env)) (PySem.isTrue t env (eval t env))):
  ay s E A M Q (eval (.IfExp t b o pos) env):=by
 rw [arm_eval_IfExp];refine af (au h (fun c s₁ h₁=> ?_) fun O O x=>x);cases c <;> exact h₁
theorem iE{id:Str}{p:Pos}{args:List Expr}(h:ay s E A M (fun f s₁=>ay s₁ E A M Q (callWith pos f [] (backTo pos (starEach args env)) [])) (eval (.Name id p) env)):
  ay s E A M Q (eval (.Call (.Name id p) args [] pos) env):=by
 show ay s E A M Q (do callWith pos (<- eval (.Name id p) env) [] (backTo pos (starEach args env)) (backToKw pos (keywordEach [] env)));exact af h
theorem jF{f:Value}{x:Sem Value}{rest:List (Bool×Sem Value)}{Q:Args->Shared->Prop}(h:ay s E A M (fun vs s'=>Q ⟨vs, []⟩ s') (spliced ((false,x)::rest))):
  ay s E A M Q (evalArgs f true ((false,x)::rest) []):=by
 unfold evalArgs;show ay s E A M Q (spliced ((false,x)::rest) >>= _);refine af (au h (fun vs s' h'=> ?_) fun O O x=>x);refine aK ?_;exact af (ax (af (ax (ax h'))))
end
end
section
variable {Q:List Value->Shared->Prop}{e o value:Expr}{pos:Pos}{prog:Program}{w:World}{attr:Str}
section
variable {M:Model}{A:Around}{E:Value->Shared->Prop}{s:Shared}{env:Env}
theorem u0{x:Sem Value}{rest:List (Bool×Sem Value)}(h:ay s E A M (fun v s₁=>ay s₁ E A M (fun vs s₂=>Q (v::vs) s₂) (spliced rest)) x):ay s E A M Q (spliced ((false,x)::rest)):=by
 rw [spliced];refine af (au h (fun v s₁ h₁=> ?_) fun O O x=>x);simp only [Bool.false_eq_true,if_false];exact af (ax (af (aK (au h₁ (fun vs s₂ h₂=>ax h₂) fun O O x=>x))))
theorem oN{rest:List Expr}(h:ay s E A M (fun v s₁=>ay s₁ E A M (fun vs s₂=>Q (v::vs) s₂) (spliced (backTo pos (starEach rest env)))) (eval e env))
  (he:starEach (e::rest) env=(false,eval e env)::starEach rest env):ay s E A M Q (spliced (backTo pos (starEach (e::rest) env))):=by
 rw [he];exact u0 h
theorem u3(h:Q [] s):ay s E A M Q (spliced (backTo pos (starEach [] env))):=ax h
theorem yY{Q:Value->Shared->Prop}(h:ay s E A (model prog w) (fun o s₁=>ay s₁ E A (model prog w) Q (getAttr o attr true)) (eval value env))
  (he:eval (.Attribute value attr pos) env=(do
   let o <- eval value env
   standAt pos.atName
   let r <- holding [o] (getAttr o attr true)
   letTemporaryGo value o r
   pure r)):ay s E A (model prog w) Q (eval (.Attribute value attr pos) env):=by
 rw [he];refine af (au h (fun o s₁ h₁=>af (bx (af (aK (au h₁ (fun r s₂ h₂=> ?_) fun O O x=>x))))) fun O O x=>x);exact af (aj (wpAny_letTemporaryGo (show ay _ _ _ _ _ _ from ax h₂)))
theorem mv{name:Str}{apos:Pos}{args:List Expr}{pl:Sem Bool}{Q:Value->Shared->Prop}
  (h:ay s E A M (fun ov s₁=>ay s₁ E A M (fun fx s₂=>ay s₂ E A M Q (callWith pos fx.1 fx.2 (backTo pos (starEach args env)) (backToKw pos (keywordEach [] env)))) (getMethod ov name pl)) (eval o env))
  (he:eval (.Call (.Attribute o name apos) args [] pos) env=(do
   let ov <- eval o env
   standAt apos.atName
   let(f,first) <- holding [ov] (getMethod ov name pl)
   callWith pos f first (backTo pos (starEach args env)) (backToKw pos (keywordEach [] env)))):ay s E A M Q (eval (.Call (.Attribute o name apos) args [] pos) env):=by
 rw [he];refine af (au h (fun ov s₁ h₁=>af (bx (af (aK (au h₁ (fun fx s₂ h₂=> ?_) fun O O x=>x))))) fun O O x=>x);exact h₂
theorem xQ{x:Expr}{whole:Sem Value}{Q:Bool->Shared->Prop}(h:ay s E A M (fun c s'=>Q (!c) s') (PySem.isTrue x env (eval x env))):ay s E A M Q (PySem.isTrue (.UnaryOp .Not x pos) env whole):=by
 show ay s E A M Q (do return !(<- PySem.isTrue x env (eval x env)));exact af (au h (fun c s' h'=>ax h') fun O O x=>x)
theorem Ht{lo hi step:Option Expr}{p:Pos}{Q:Value->Shared->Prop}(h:ay s E A M (fun l s₁=>ay s₁ E A M (fun u s₂=>ay s₂ E A M (fun st s₃=>
   Q (.ref s₃.heap.objs.size) {s₃ with heap:=s₃.heap.push {cls:= .type "slice",data:= .fields #[l,u,st]}}) (evalPart step env)) (evalPart hi env)) (evalPart lo env)):ay s E A M Q (eval (.Slice lo hi step p) env):=by
 rw [arm_eval_Slice];refine af (au h (fun l s₁ h₁=>af (aK (au h₁ (fun u s₂ h₂=>af (aK (au h₂ (fun st s₃ h₃=> ?_) fun O O x=>x))) fun O O x=>x))) fun O O x=>x);exact aj (wpAny_newObj_type h₃)
theorem lq{pos':Pos}{Q:Flow->Shared->Prop}(h:ay s E A M (fun v s₁=>ay s₁ E A M (fun ov s₂=>ay s₂ E A M (fun O=>Q .next) (setAttr ov attr v)) (eval o env)) (eval value env))
  (hs:swapsWith value (some (.Attribute o attr pos')) pos.line env=pure false):ay s E A M Q (exec (.Assign [.Attribute o attr pos'] value pos) env):=fun Γ p hΓ hc=>by
 simp only [plainObj_exec_Assign_Attribute o attr pos' value pos hs,assign_Attribute,Sem.wp_bind',Sem.wp_holding,Sem.wp_cmd_standAt,Sem.wp_release,Sem.wp_pure'];exact Sem.wp_mono M Γ _ (fun v p₁ s₁ h₁=>Sem.wp_mono M Γ _ (fun ov O s₂ h₂=>h₂ Γ _ hΓ hc) (fun O O O h'=>h') _ _ (h₁ Γ p₁ hΓ hc)) (fun O O O h'=>h') _ _ (h Γ _ hΓ hc)
theorem BK{Q:Flow->Shared->Prop}(h:ay s E A (model prog w) (fun O=>Q .next) (eval e env))(hi:interactive env=false)(hs:swapsWith e none pos.line env=pure false):
  ay s E A (model prog w) Q (exec (.Expr e pos) env):=by
 rw [exec_Expr env e pos hi hs];exact af (bx (af (au h (fun v s' h'=>aj (wpAny_dropValue h')) fun O O x=>x)))
end
end
section
variable {α:Type}
section
variable {M:Model}{A:Around}{E:Value->Shared->Prop}{s:Shared}{env:Env}
theorem BL{vs:List Value}{m:Sem α}{Q:α->Shared->Prop}(h:ay s E A M Q m):ay s E A M Q (m.keep vs):=fun Γ p hΓ hc=>by rw [Sem.wp_keep];exact h Γ p hΓ hc
theorem EL{c:Prop}[Decidable c]{x y:Sem α}{Q:α->Shared->Prop}(h:ay s E A M Q x)(k:ay s E A M Q y):ay s E A M Q (if c then x else y):=by
 by_cases z:c
 ·rw [if_pos z];exact h
 ·rw [if_neg z];exact k
theorem lP{pos:Pos}{f:Value}{first:List Value}{Q:Value->Shared->Prop}{P:Heap->Prop}{args:List (Bool×Sem Value)}{keywords:List (Option Str×Sem Value)}(PC:(args.any (·.1)||keywords.any (·.1.isNone))=false)
  (hk:∀h,P h->∃k,(k=Keeper.frame\/k=Keeper.machine\/k=Keeper.boundFrame)/\Looks M h (keeperOf f) k)
  (h:ay s E A M (fun a s₁=>P s₁.heap/\ay s₁ E A M Q (call f (first++a.pos) a.kw)) (evalArgs f true args keywords)):ay s E A M Q (callWith pos f first args keywords):=by
 refine af (aK (au h (fun a s₁ h₁=>af (bx ?_)) fun O O x=>x));obtain⟨k,Uj,L⟩:=hk _ h₁.1;refine af (aj (L.here ?_));rw [PC];have tail:∀ {t:Sem Value},ay s₁ E A M Q t->ay s₁ E A M Q (t >>= fun r=>holding [r] point >>= fun O=>pure r):=
  fun ht=>af (au ht (fun r s₂ hr=>af (aK (yT (ax hr)))) fun O O x=>x)
 rcases Uj with rfl|rfl|rfl
 ·exact EL (tail h₁.2) (tail (BL h₁.2))
 ·exact tail h₁.2
 ·exact EL (tail h₁.2) (tail (BL h₁.2))
end
end
section
variable {M:Model}{c:Code}{aU:Expr}{body orelse:List Stmt}{Q:Flow->Shared->Prop}
section
variable {prog:Program}{w:World}{A:Around}{E:Value->Shared->Prop}{s:Shared}{R:Result->Shared->Prop}{env:Env}
theorem ug{α:Type}{m:Sem α}{Q:α->Shared->Prop}(h:ay s (notedBy M A env E) A M Q m):ay s E A M Q (m.onRaise fun x=>do noteFrame x env;theTreesLotGoes x):=
 kK (au h (fun O O q=>q) fun O O hx=>aj (aN (wpAny_mono hx (fun O O e=>wpAny_theTreesLotGoes e) fun O O e=>e)))
theorem CL(fZ:jZ c=true)(hq:c.quiet=true)(I:Nat->Shared->Prop)
  (turn:∀n s,I n s->ay s (fun e s'=>R (.error e) s') (A.under c) M (fun fin s'=>match fin with| .done f=>R (.ok f) s'| .again c'=>(c'=c/\∃m,m<n/\I m s')\/(c'.quiet=true/\cQ M A c' R s')) (M.den c))
  (n:Nat)(h:I n s):cQ M A c R s:=by
 induction n using Nat.strongRecOn generalizing s with
 |ind n ih=>
  refine dG fZ (au (turn n s h) (fun fin s' hf=> ?_) fun O O h'=>h');cases fin with
  |done f=>exact hf
  |again c'=>
   rcases hf with⟨rfl,m,hm,hI⟩|hf
   ·exact⟨hq,ih m hm hI⟩
   ·exact hf
theorem CM{stmts:List Stmt}(h:ay s (notedBy (model prog w) A env fun e s'=>R (.error e) s') A (model prog w) (fun f s'=>R (.ok f) s') (execs stmts env)):cQ (model prog w) A (.block stmts env) R s:=by
 refine dG rfl ?_;show ay s _ _ _ _ (do return Fin.done (<- (execs stmts env).onRaise (fun x=>do noteFrame x env;theTreesLotGoes x)));exact af (ug (au h (fun f s' h'=>ax h') fun O O h'=>h'))
theorem yZ{it:Value}(I:Nat->Shared->Prop)
  (turn:∀n s,I n s->ay s (notedBy (model prog w) A env fun e s'=>R (.error e) s') A (model prog w) (fun r s₁=>match r with
   |none=>ay s₁ (notedBy (model prog w) A env fun e s'=>R (.error e) s') A (model prog w) (fun f s₃=>R (.ok f) s₃) (execs orelse env)
   |some v=>ay s₁ (notedBy (model prog w) A env fun e s'=>R (.error e) s') A (model prog w) (fun O L7=>ay L7 (notedBy (model prog w) A env fun e s'=>R (.error e) s') A (model prog w) (fun O s₂=>ay s₂ (notedBy (model prog w) A env fun e s'=>R (.error e) s') A (model prog w) (fun f s₃=>match f with
      | .next| .cont=>∃m,m<n/\I m s₃
      | .brk=>R (.ok .next) s₃
      | .ret v=>R (.ok (.ret v)) s₃) (execs body env)) (assign aU env v)) (letOwnedTupleGo aU it v)) (pyNext it))
  (n:Nat)(h:I n s):cQ (model prog w) A (.forLoop aU it body orelse env) R s:=by
 refine CL rfl rfl I (fun n s hI=> ?_) n h;show ay s _ A _ _ ((forTurn aU it body orelse env).onRaise (fun x=>do noteFrame x env;theTreesLotGoes x));refine ug ?_;refine af (bx (af (kK (au (turn n s hI) (fun r s₁ h₁=> ?_) fun O O h'=>bx h'))));cases r with
 |none=>exact ax (.inr ⟨rfl,CM h₁⟩)
 |some v=>
  refine af (au h₁ (fun O L7 Uk=> ?_) fun O O h'=>h');refine af (au Uk (fun O s₂ h₂=>af (au h₂ (fun f s₃ h₃=> ?_) fun O O h'=>h')) fun O O h'=>h');cases f with
  |next=>exact ax (.inl ⟨rfl,h₃⟩)
  |cont=>exact ax (.inl ⟨rfl,h₃⟩)
  |brk=>exact ax h₃
  |ret v=>exact ax h₃
theorem EM(hc:cQ M (A.mark none) c (fun r s'=>match r with| .ok f=>Q f s'| .error e=>cameBackBy M A env E e s') s):ay s E A M Q (runOwn c env):=by
 exact kK (au (EF (Q:=Q) (E:=fun e s'=>cameBackBy M A env E e s') hc) (fun O O q=>q) fun O O q=>aj q)
theorem L9{iter:Expr}{pos:Pos}
  (h:ay s E A M (fun x s₁=>ay s₁ E A M (fun it s₂=>cQ M (A.mark none) (.forLoop aU it body orelse env) (fun r s'=>match r with| .ok f=>Q f s'| .error e=>cameBackBy M A env E e s') s₂) (pyIter x)) (eval iter env))
  (hs:∀x,foldedSetIterable iter env x=pure x):ay s E A M Q (exec (.For aU iter body orelse pos) env):=by
 rw [exec_For];exact af (bx (af (au h (fun x s₁ h₁=>af (cR (hs x) (af (bx (af (aK (au h₁ (fun it s₂ h₂=>EM h₂) fun O O h'=>h'))))))) fun O O h'=>h')))
end
end
section
section
variable {prog:Program}{w:World}{A:Around}{E:Value->Shared->Prop}{s:Shared}{R:Result->Shared->Prop}{env:Env}
theorem oO{a:Addr}{o:Obj}{fd:FuncData}{body:List Stmt}{args:Args}{binds:List (Str×Value)}
  (Hm:A.depth<recursionLimit)(ho:s.heap.get? a=some o)(Ul:o.data= .func fd)(ade:s.heap.NoLimit)(Ko:s.heap.CodeRec fd.code fd.qualname)(Ho:fd.body= .stmts body)(qr:BindsTo s fd args binds)(u4:fd.closure= [])
  (kN:∀x∈binds,fd.scope.names.lookup x.1=some .local\/(fd.scope.names.lookup x.1=some .cell/\((cellsFrom (s.heap.objs.size+1) fd.scope.names []).lookup x.1).isSome=true))
  (h:∀s₁,InCallC s (callEnvC fd s.heap.objs.size a).locals (bindL (callEnvC fd s.heap.objs.size a).kindOf binds fun O=>none) (callEnvC fd s.heap.objs.size a).cells
    (bindC (callEnvC fd s.heap.objs.size a).kindOf binds fun O=>none) s₁->
   ay s₁ (fun e s'=>ay s' (fun e' kL=>R (.error e') kL) (A.deeper (callEnvC fd s.heap.objs.size a)) (model prog w) (fun O kL=>R (.error e) kL) (leaving (callEnvC fd s.heap.objs.size a) e)) (A.deeper (callEnvC fd s.heap.objs.size a)) (model prog w) (fun f s'=>R (.ok (.ret (match f with| .ret v=>v|_=> .none))) s') (execs body (callEnvC fd s.heap.objs.size a)))
  (Hn:fd.scope.isCoroutine=false)(yX:fd.scope.isGenerator=false)(hk:fd.scope.kind= .function):cQ (model prog w) A (.call (.ref a) args) R s:=by
 refine rL Hm ho Ul Hn yX Ho Ko (aj (qr _ _ _ _ (show ay _ _ _ _ _ _ from aj ?_)));rw [u4];refine wpAny_newFunctionEnv_cells hk kN fun env he s' x=> ?_;subst he;exact⟨ade.keeps x.toInCall.keep,EK (h s' x)⟩
end
end
section
variable {value:Expr}{pos:Pos}{Q:Value->Shared->Prop}{mS:List Expr}
section
variable {M:Model}{A:Around}{E:Value->Shared->Prop}{s:Shared}{env:Env}
theorem jd{slice:Expr}(h:ay s E A M (fun o s₁=>ay s₁ E A M (fun i s₂=>ay s₂ E A M Q (subscriptTail value slice o i)) (eval slice env)) (eval value env)):
  ay s E A M Q (eval (.Subscript value slice pos) env):=by
 rw [eval_Subscript];exact af (au h (fun o s₁ h₁=>af (aK (au h₁ (fun i s₂ h₂=>af (bx h₂)) fun O O x=>x))) fun O O x=>x)
theorem Hu{k:Nat}(h:ay s E A M (fun vs s₁=>ay s₁ E A M Q (newTuple vs)) (spliced (backTo pos (starEach mS env)))):ay s E A M Q (eval (.Tuple mS k pos) env):=by
 show ay s E A M Q (do standAt pos;newTuple (<- spliced (backTo pos (starEach mS env))));exact af (bx (af h))
theorem Kp(h:ay s E A M (fun vs s₁=>ay s₁ E A M Q (newList vs)) (spliced (backTo pos (starEach mS env)))):ay s E A M Q (eval (.List mS pos) env):=by
 show ay s E A M Q (do standAt pos;newList (<- spliced (backTo pos (starEach mS env))));exact af (bx (af h))
theorem qt{vs keep:List Value}{Q:Unit->Shared->Prop}(h:Q () s):ay s E A M Q (release vs keep):=aj (wpAny_release h)
theorem y0{l r₁ r₂:Expr}{o₁ o₂:CmpOp}{whole:Sem Value}{Q:Bool->Shared->Prop}(hb:lastMarks [o₁,o₂] [r₁,r₂]=false)
  (h:ay s E A M (fun a s₁=>ay s₁ E A M (fun b s₂=>ay s₂ E A M (fun c s₃=>ay s₃ E A M (fun t s₄=>
   if t=true then ay s₄ E A M (fun d s₅=>ay s₅ E A M (fun e s₆=>ay s₆ E A M Q (truthy e)) (compareOp o₂ b d)) (eval r₂ env) else Q false s₄) (truthy c)) (compareOp o₁ a b)) (eval r₁ env)) (eval l env)):
  ay s E A M Q (PySem.isTrue (.Compare l [o₁,o₂] [r₁,r₂] pos) env whole):=by
 show ay s E A M Q (do testChain pos (<- eval l env) [o₁,o₂] (markedEach [o₁,o₂] [r₁,r₂] (evalEach [r₁,r₂] env)));rw [markedEach_of_false _ _ _ hb];refine af (au h (fun a s₁ h₁=> ?_) fun O O e=>e);show ay _ _ _ _ _ (testChain pos a [o₁,o₂] [eval r₁ env,eval r₂ env]);refine af (aK (au h₁ (fun b s₂ h₂=>af (bx (af (aK (au h₂ (fun c s₃ h₃=>af (qt (af (aK (au h₃ (fun t s₄ h₄=> ?_) fun O O e=>e))))) fun O O e=>e))))) fun O O e=>e));cases t with
 |false=>exact ax h₄
 |true=>
  show ay _ _ _ _ _ (testChain pos b [o₂] [eval r₂ env]);exact af (aK (au h₄ (fun d s₅ h₅=>af (bx (af (qo (au h₅ (fun e s₆ h₆=>aK h₆) fun O O e=>e))))) fun O O e=>e))
theorem lr{o i:Expr}{pos':Pos}{Q:Flow->Shared->Prop}(h:ay s E A M (fun v s₁=>ay s₁ E A M (fun ov s₂=>ay s₂ E A M (fun iv s₃=>ay s₃ E A M (fun O=>Q .next) (setItem ov iv v)) (eval i env)) (eval o env)) (eval value env))
  (hs:swapsWith value (some (.Subscript o i pos')) pos.line env=pure false):ay s E A M Q (exec (.Assign [.Subscript o i pos'] value pos) env):=fun Γ p hΓ hc=>by
 rw [exec_Assign_Subscript o i pos' value pos hs];exact af (bx (af (au h (fun v s₁ h₁=>af (af (aK (au h₁ (fun ov s₂ h₂=>af (aK (au h₂ (fun iv s₃ h₃=>af (bx (af (aK (au h₃ (fun O s₄ h₄=>qt (ax h₄)) fun O O e=>e))))) fun O O e=>e))) fun O O e=>e)))) fun O O e=>e))) Γ p hΓ hc
end
end
section
variable {pos:Pos}
section
variable {M:Model}{A:Around}{E:Value->Shared->Prop}{s:Shared}{env:Env}
def qu(M:Model)(A:Around)(E:Value->Shared->Prop)(use:Option (Value->Sem Unit))(Q:Value->Shared->Prop)(acc:Value)(C:Addr)(r:Result)(s':Shared):Prop:=
 match r,use with
 | .ok _,none=>∃m,s'.heap.Ns C m/\∀h',Heap.SameBut C s'.heap h'->Q acc {s' with heap:=h'}
 | .ok _,some u=>ay s' E A M (fun O kL=>∃m,kL.heap.Ns C m/\∀h',Heap.SameBut C kL.heap h'->Q .none {kL with heap:=h'}) (u acc)
 | .error x,_=>∃m,s'.heap.Ns C m/\∀h',Heap.SameBut C s'.heap h'->∀cenv:Env,cenv.locals=C->ay {s' with heap:=h'} E A M (fun O O=>False) (passOn "comprehension.variables-let-go" x cenv:Sem Value)
theorem CP{α:Type}{c:Bool}{k:Unit->Sem α}{Q:α->Shared->Prop}(h:ay s E A M Q (k ())):ay s E A M Q (if c then(standAt pos >>= k) else k ()):=by
 split
 ·exact af (bx h)
 ·exact h
theorem uh{e:Expr}{scope:Scope}{Jg first:Sem Value}{g:Comprehension}{gs:List Comprehension}{cl:List (Str×Addr)}{use:Option (Value->Sem Unit)}{Q:Value->Shared->Prop}
  (fZ:clausesOf e=g::gs)(hs:∀x,foldedSetIterable g.iter env x=pure x)(Hv:closureFor scope env=pure cl)(kN:scope.kind= .function)(yD:∀x∈scope.names,x.2= .local->scope.names.lookup x.1=some .local)
  (h:ay s E A M (fun x s₁=>ay s₁ E A M (fun it s₂=>ay s₂ E A M (fun acc s₃=>ay s₃ E A M (fun cenv s₄=>
    cQ M (A.mark none) (.compStart e 0 it acc {cenv with scope:=relabel scope env}) (qu M A E use Q acc cenv.locals) s₄) (newFunctionEnv scope env.globals cl [] env.qual none .none (some env))) Jg) (pyIter x)) first):
  ay s E A M Q (comprehension e scope env pos Jg false first use):=by
 unfold comprehension;rw [Hv,fZ];refine af (au h (fun x s₁ h₁=>af (bx (af (cR (hs x) (af (aK (au h₁ (fun it s₂ h₂=>
  CP (af (au h₂ (fun acc s₃ h₃=>af (ax (af (au h₃ (fun cenv s₄ h₄=> ?_) fun O O h'=>h')))) fun O O h'=>h')))
   fun O O h'=>h'))))))) fun O O h'=>h')
 dsimp only;have hv:∀x∈(scope.names.filter fun x=>(x.2== .local||x.2== .cell)&&x.1 != (".0":Str)).reverse,x.2= .local->
   Env.kindOf {cenv with scope:=relabel scope env} x.1=some .local:=fun x hx hl=>lookup_relabel_local (yD x (List.mem_filter.mp (List.mem_reverse.mp hx)).1 hl)
 have EO:∀x∈(scope.names.filter fun x=>(x.2== .local||x.2== .cell)&&x.1 != (".0":Str)).reverse.drop 1++(scope.names.filter fun x=>(x.2== .local||x.2== .cell)&&x.1 != (".0":Str)).reverse.take 1,
   x.2= .local->Env.kindOf {cenv with scope:=relabel scope env} x.1=some .local:=fun x hx hl=>by
  rcases List.mem_append.mp hx with h1|h1
  ·exact hv x (List.mem_of_mem_drop h1) hl
  ·exact hv x (List.mem_of_mem_take h1) hl
 refine aK (af (uW (aK (EF (gB h₄ fun r s' hr=> ?_)))));cases r with
 |ok f=>
  cases use with
  |none=>
   obtain⟨m,hn,hr⟩:=hr;exact af (aK (aj (wpAny_comp_letGo (cenv:= {cenv with scope:=relabel scope env}) kN _ s' m hv hn fun h' m' O Hl=>show ay _ _ _ _ _ _ from ax (hr h' Hl))))
  |some u=>
   refine af (ko (af (aK (au hr (fun O kL L_=> ?_) fun O O h'=>h'))));obtain⟨m,hn,L_⟩:=L_;exact af (aj (wpAny_comp_letGo (cenv:= {cenv with scope:=relabel scope env}) kN _ kL m EO hn fun h' m' O Hl=>show ay _ _ _ _ _ _ from ax (L_ h' Hl)))
 |error x=>
  have L_:∃m,s'.heap.Ns cenv.locals m/\∀h',Heap.SameBut cenv.locals s'.heap h'->∀Ma:Env,Ma.locals=cenv.locals->ay {s' with heap:=h'} E A M (fun O O=>False) (passOn "comprehension.variables-let-go" x Ma:Sem Value):=by cases use <;> exact hr
  obtain⟨m,hn,hr⟩:=L_;exact af (aK (aj (wpAny_comp_letGo (cenv:= {cenv with scope:=relabel scope env}) kN _ s' m hv hn fun h' m' O Hl=>show ay _ _ _ _ _ _ from au (hr h' Hl _ rfl) (fun O O f=>f.elim) fun O O y=>y)))
end
end
section
variable {env:Env}{pos:Pos}{dy iter aU:Expr}{ifs:List Expr}{scope:Scope}{acc it:Value}
section
variable {prog:Program}{w:World}{A:Around}{E:Value->Shared->Prop}{s:Shared}{R:Result->Shared->Prop}
theorem CQ{α:Type}{M:Model}{m:Sem α}{Q:α->Shared->Prop}(h:ay s (notedBy M A env E) A M Q m):ay s E A M Q (m.onRaise fun x=>do noteFrame x env;standAt pos):=
 kK (au h (fun O O q=>q) fun O O hx=>aj (aN (wpAny_mono hx (fun O O e=>wpAny_standAt e) fun O O e=>e)))
theorem wa{rest:List Comprehension}
  (h0:cQ (model prog w) A (.compLoop (.ListComp dy (⟨aU,iter,ifs,0⟩::rest) scope pos) 0 it acc env) R s)
  (h:ay s (notedBy (model prog w) A env fun x s'=>R (.error x) s') A (model prog w) (fun Um s'=>cQ (model prog w) A (.compLoop (.ListComp dy (⟨aU,iter,ifs,0⟩::rest) scope pos) 0 Um acc env) R s') (pyIter it)):
  cQ (model prog w) A (.compStart (.ListComp dy (⟨aU,iter,ifs,0⟩::rest) scope pos) 0 it acc env) R s:=by
 refine dG rfl ?_;refine CQ ?_;refine af (aj (wpAny_askSetting ?_))
 split
 ·first
   |exact af (ax (ax (And.intro rfl h0)))
   |exact ax (And.intro rfl h0)
 ·first
   |exact af (ko (af (bx (af (au h (fun Um s' h'=>ax (And.intro rfl h')) fun O O x=>x)))))
   |(refine af (ko ?_);show ay s _ _ _ _ (standAt iter.pos >>= _);exact af (bx (af (au h (fun Um s' h'=>ax (And.intro rfl h')) fun O O x=>x))))
theorem xR(I:Nat->Shared->Prop)
  (turn:∀n s,I n s->ay s (notedBy (model prog w) A env fun e s'=>R (.error e) s') A (model prog w) (fun r s₁=>match r with
   |none=>R (.ok .next) s₁
   |some v=>ay s₁ (notedBy (model prog w) A env fun e s'=>R (.error e) s') A (model prog w) (fun O L7=>ay L7 (notedBy (model prog w) A env fun e s'=>R (.error e) s') A (model prog w) (fun O s₂=>
     ay s₂ (notedBy (model prog w) A env fun e s'=>R (.error e) s') A (model prog w) (fun ok s₃=>
      if ok=true then ay s₃ (notedBy (model prog w) A env fun e s'=>R (.error e) s') A (model prog w) (fun x s₄=>
       ay s₄ (notedBy (model prog w) A env fun e s'=>R (.error e) s') A (model prog w) (fun O s₅=>∃m,m<n/\I m s₅) (call (.builtin "list.append") [acc,x])) (eval dy env)
      else∃m,m<n/\I m s₃) (forIn ifs true fun c r=>if r=true then do let ok <- PySem.isTrue c env (eval c env);pure (ForInStep.yield ok) else pure (ForInStep.yield r))) (assign aU env v)) (letOwnedTupleGo aU it v)) (pyNext it))
  (n:Nat)(h:I n s):cQ (model prog w) A (.compLoop (.ListComp dy [⟨aU,iter,ifs,0⟩] scope pos) 0 it acc env) R s:=by
 refine EG rfl rfl I (fun n s hI=> ?_) n h;show ay s _ A _ _ ((compTurn (.ListComp dy [⟨aU,iter,ifs,0⟩] scope pos) 0 it acc env).onRaise (fun x=>do noteFrame x env;theTreesLotGoes x));refine ug ?_;rw [compTurn_list];refine af (bx (af (au (turn n s hI) (fun r s₁ h₁=> ?_) fun O O h'=>h')));cases r with
 |none=>exact ax h₁
 |some v=>
  refine af (au h₁ (fun O L7 Uk=> ?_) fun O O h'=>h');refine af (au Uk (fun O s₂ h₂=>af (au h₂ (fun ok s₃ h₃=> ?_) fun O O h'=>h')) fun O O h'=>h');cases ok with
  |false=>exact af (ax (ax ⟨rfl,h₃⟩))
  |true=>exact af (af (au h₃ (fun x s₄ h₄=>af (au h₄ (fun O s₅ h₅=>ax (ax ⟨rfl,h₅⟩)) fun O O h'=>h')) fun O O h'=>h'))
end
end
section
set_option backward.match.sparseCases false
variable {xs:List MV}{vs:List Value}{x:MV}{v:Value}{i j:Nat}{k:List UInt8}{mo:MO}{o:Obj}{X:Addr->Prop}{a:Addr}
noncomputable abbrev KK(w:World):Frag:=KL w.params
structure Base (w:World) (h:Heap):Prop where
 X:(KK w).In h
 top:∃mg mb,h.Ns mainGlobals mg/\h.Ns builtinsNs mb/\(∀x:Str,x≠"__name__"->mb x=bootBuiltins x)
 nolimit:h.NoLimit
theorem Base.keeps{w:World}{h h':Heap}(b:Base w h)(k:∀a o,h.get? a=some o->h'.get? a=some o):Base w h':=
 ⟨b.X.keeps k,let⟨mg,mb,x,y,z⟩:=b.top;⟨mg,mb,x.keeps k,y.keeps k,z⟩,b.nolimit.keeps k⟩
abbrev Sub(g h:Heap):Prop:=∀a o,g.get? a=some o->h.get? a=some o
inductive MV where
 |none|bool (b:Bool)|int (n:Int)|str (s:Str)|bytes (b:List UInt8)|tup (l:List MV)|pk (a b:Int)|obj (i:Nat)|fn (v:Value)
inductive MO where
 |list (xs:List MV)|ba (b:List UInt8)|inst (C:Addr)|dP (fs:List (Str×MV))|dict (es:List (Int×MV))|tR (n:Nat)|bad
structure MH where
 n:Nat
 ob:Nat->MO
noncomputable abbrev av:=List (Option MV)
noncomputable def MH.set(m:MH)(i:Nat)(o:MO):MH:=⟨m.n,fun j=>if j=i then o else m.ob j⟩
noncomputable def MH.new(m:MH)(o:MO):MH:=⟨m.n+1,fun j=>if j=m.n then o else m.ob j⟩
noncomputable abbrev fP(vs:List Value)(n:Nat):Obj:= {cls:= .type "list",data:= .seq vs.toArray n}
noncomputable abbrev tS(vs:List Value)(n:Nat):Obj:= {cls:= .type "tuple",data:= .seq vs.toArray n}
noncomputable abbrev pq(b:List UInt8):Obj:= {cls:= .type "bytearray",data:= .bytearray b.toArray}
noncomputable abbrev Jh(a b:Int)(t u v:Tok):Obj:= {cls:= .type "range",data:= .fields #[.int a t,.int b u,.int 1 v]}
def l_(o:Obj):Prop:=(∃vs n,o=tS vs n)\/(∃a b t u v,o=Jh a b t u v)
inductive F2 {α β:Type} (R:α->β->Prop):List α->List β->Prop where
 |nil:F2 R [] []
 |cons {a:α} {b:β} {as:List α} {bs:List β}:R a b->F2 R as bs->F2 R (a::as) (b::bs)
namespace F2
variable {α β:Type}{R R':α->β->Prop}{as cs:List α}{bs ds:List β}
theorem mono(h:F2 R as bs)(k:∀a b,R a b->R' a b):F2 R' as bs:=by
 induction h with
 |nil=>exact .nil
 |cons a _ ih=>exact .cons (k _ _ a) ih
theorem len(h:F2 R as bs):as.length=bs.length:=by
 induction h with
 |nil=>rfl
 |cons a _ ih=>exact congrArg Nat.succ ih
theorem get(h:F2 R as bs):∀ {k:Nat} {a:α},as[k]? =some a->∃b,bs[k]? =some b/\R a b:=by
 induction h with
 |nil=>exact fun e=>absurd e (by simp)
 |cons r _ ih=>
  intro k a e;cases k with
  |zero=>exact d9 e▸⟨_,rfl,r⟩
  |succ k=>exact ih (k:=k) e
theorem append(h:F2 R as bs)(g:F2 R cs ds):F2 R (as++cs) (bs++ds):=by
 induction h with
 |nil=>exact g
 |cons a _ ih=>exact .cons a ih
theorem snoc{a:α}{b:β}(h:F2 R as bs)(r:R a b):F2 R (as++ [a]) (bs++ [b]):=h.append (.cons r .nil)
theorem drop(h:F2 R as bs):∀k,F2 R (as.drop k) (bs.drop k):=by
 induction h with
 |nil=>intro k;rw [List.drop_nil,List.drop_nil];exact .nil
 |cons a b ih=>intro k;cases k with
  |zero=>exact .cons a b
  |succ k=>exact ih k
theorem take(h:F2 R as bs):∀k,F2 R (as.take k) (bs.take k):=by
 induction h with
 |nil=>intro k;rw [List.take_nil,List.take_nil];exact .nil
 |cons a b ih=>intro k;cases k with
  |zero=>exact .nil
  |succ k=>exact .cons a (ih k)
end F2
noncomputable def MV.int?:MV->Option Int
 | .int k=>some k
 |_=>Option.none
noncomputable def MV.u5:MV->Option Str
 | .str k=>some k
 |_=>Option.none
noncomputable def MV.qv:MV->Option (List UInt8)
 | .bytes k=>some k
 |_=>Option.none
noncomputable def MV.bool?:MV->Option Bool
 | .bool k=>some k
 |_=>Option.none
noncomputable def MV.ij:MV->Option Nat
 | .obj k=>some k
 |_=>Option.none
noncomputable def MV.BO:MV->Option (List MV)
 | .tup k=>some k
 |_=>Option.none
noncomputable def MV.PD:MV->Option Value
 | .fn k=>some k
 |_=>Option.none
noncomputable def MO.gR:MO->Option (List MV)
 | .list k=>some k
 |_=>Option.none
noncomputable def MO.Kq:MO->Option (List UInt8)
 | .ba k=>some k
 |_=>Option.none
noncomputable def MO.inst?:MO->Option Addr
 | .inst k=>some k
 |_=>Option.none
noncomputable def MO.EP:MO->Option (List (Str×MV))
 | .dP k=>some k
 |_=>Option.none
noncomputable def MO.Hw:MO->Option (List (Int×MV))
 | .dict k=>some k
 |_=>Option.none
mutual
inductive a_ (ρ:Nat->Addr) (n:Nat) (h:Heap):MV->Value->Prop where
 |none:a_ ρ n h .none .none
 |bool (b:Bool):a_ ρ n h (.bool b) (.bool b)
 |int (k:Int) (t:Tok):a_ ρ n h (.int k) (.int k t)
 |str (s:Str) (t:Tok):a_ ρ n h (.str s) (.str s t)
 |bytes (b:List UInt8) (t:Tok):a_ ρ n h (.bytes b) (.bytes b.toArray t)
 |tup {xs:List MV} {vs:List Value} {a:Addr} {e:Nat}:h.get? a=some (tS vs e)->bI ρ n h xs vs->a_ ρ n h (.tup xs) (.ref a)
 |pk {a b:Int} {r:Addr} {t u v:Tok}:h.get? r=some (Jh a b t u v)->a_ ρ n h (.pk a b) (.ref r)
 |obj {i:Nat}:i<n->a_ ρ n h (.obj i) (.ref (ρ i))
 |fn (v:Value):a_ ρ n h (.fn v) v
inductive bI (ρ:Nat->Addr) (n:Nat) (h:Heap):List MV->List Value->Prop where
 |nil:bI ρ n h [] []
 |cons {x:MV} {v:Value} {xs:List MV} {vs:List Value}:a_ ρ n h x v->bI ρ n h xs vs->bI ρ n h (x::xs) (v::vs)
end
structure lu (ρ:Nat->Addr) (n:Nat) (h:Heap) (ρ':Nat->Addr) (n':Nat) (h':Heap):Prop where
 ρ:∀i,i<n->ρ' i=ρ i
 n:n<=n'
 nO:∀a o,h.get? a=some o->l_ o->h'.get? a=some o
section
variable {ρ ρ':Nat->Addr}{n n':Nat}{h h':Heap}
theorem bI.f2(r:bI ρ n h xs vs):F2 (a_ ρ n h) xs vs:=
 bI.rec (motive_1:=fun O O O=>True) (motive_2:=fun xs vs O=>F2 (a_ ρ n h) xs vs) trivial (fun O=>trivial) (fun O O=>trivial) (fun O O=>trivial) (fun O O=>trivial) (fun O O O=>trivial) (fun O=>trivial) (fun O=>trivial) (fun O=>trivial) .nil (fun a O O ih=> .cons a ih) r
theorem bI.of(r:F2 (a_ ρ n h) xs vs):bI ρ n h xs vs:=by
 induction r with
 |nil=>exact .nil
 |cons a _ ih=>exact .cons a ih
theorem a_.mono(k:lu ρ n h ρ' n' h')(r:a_ ρ n h x v):a_ ρ' n' h' x v:=
 a_.rec (motive_1:=fun x v O=>a_ ρ' n' h' x v) (motive_2:=fun xs vs O=>bI ρ' n' h' xs vs) .none .bool .int .str .bytes (fun e O ih=> .tup (k.nO _ _ e (.inl ⟨_,_,rfl⟩)) ih) (fun e=> .pk (k.nO _ _ e (.inr ⟨_,_,_,_,_,rfl⟩)))
  (fun hi=>k.ρ _ hi▸ .obj (eE hi k.n)) .fn .nil (fun O O a b=> .cons a b) r
theorem bI.mono(k:lu ρ n h ρ' n' h')(r:bI ρ n h xs vs):bI ρ' n' h' xs vs:= .of (r.f2.mono fun O O a=>a.mono k)
theorem bI.length(r:bI ρ n h xs vs):xs.length=vs.length:=r.f2.len
theorem bI.get(r:bI ρ n h xs vs)(e:xs[i]? =some x):∃v,vs[i]? =some v/\a_ ρ n h x v:=r.f2.get e
theorem bI.append{ys:List MV}{us:List Value}(r:bI ρ n h xs vs)(q:bI ρ n h ys us):bI ρ n h (xs++ys) (vs++us):= .of (r.f2.append q.f2)
theorem bI.drop(r:bI ρ n h xs vs)(k:Nat):bI ρ n h (xs.drop k) (vs.drop k):= .of (r.f2.drop k)
theorem bI.take(r:bI ρ n h xs vs)(k:Nat):bI ρ n h (xs.take k) (vs.take k):= .of (r.f2.take k)
theorem bZ{α:Type}{b:α}{P:Prop}(e:(none:Option α)=some b):P:=Option.noConfusion rfl (heq_of_eq e)
theorem a_.iF{k:Int}(r:a_ ρ n h x v)(e:x.int?=some k):∃t,v= .int k t:=
 r.casesOn (motive_1:=fun x v O=>x.int?=some k->∃t,v= .int k t) bZ (fun O=>bZ) (fun O t e=>⟨t,congrArg (Value.int · t) (d9 e)⟩) (fun O O=>bZ) (fun O O=>bZ) (fun O O=>bZ) (fun O=>bZ) (fun O=>bZ) (fun O=>bZ) e
theorem a_.xf{k:Str}(r:a_ ρ n h x v)(e:x.u5=some k):∃t,v= .str k t:=
 r.casesOn (motive_1:=fun x v O=>x.u5=some k->∃t,v= .str k t) bZ (fun O=>bZ) (fun O O=>bZ) (fun O t e=>⟨t,congrArg (Value.str · t) (d9 e)⟩) (fun O O=>bZ) (fun O O=>bZ) (fun O=>bZ) (fun O=>bZ) (fun O=>bZ) e
theorem a_.u6(r:a_ ρ n h x v)(e:x.qv=some k):∃t,v= .bytes k.toArray t:=
 r.casesOn (motive_1:=fun x v O=>x.qv=some k->∃t,v= .bytes k.toArray t) bZ (fun O=>bZ) (fun O O=>bZ) (fun O O=>bZ) (fun O t e=>⟨t,congrArg (fun k:List UInt8=>Value.bytes k.toArray t) (d9 e)⟩) (fun O O=>bZ) (fun O=>bZ) (fun O=>bZ) (fun O=>bZ) e
theorem a_.CR{k:Bool}(r:a_ ρ n h x v)(e:x.bool?=some k):v= .bool k:=
 r.casesOn (motive_1:=fun x v O=>x.bool?=some k->v= .bool k) bZ (fun O e=>congrArg Value.bool (d9 e)) (fun O O=>bZ) (fun O O=>bZ) (fun O O=>bZ) (fun O O=>bZ) (fun O=>bZ) (fun O=>bZ) (fun O=>bZ) e
theorem a_.ik(r:a_ ρ n h x v)(e:x.ij=some i):i<n/\v= .ref (ρ i):=
 r.casesOn (motive_1:=fun x v O=>x.ij=some i->i<n/\v= .ref (ρ i)) bZ (fun O=>bZ) (fun O O=>bZ) (fun O O=>bZ) (fun O O=>bZ) (fun O O=>bZ) (fun O=>bZ) (fun hi e=>d9 e▸⟨hi,rfl⟩) (fun O=>bZ) e
def IsTup(ρ:Nat->Addr)(n:Nat)(h:Heap)(xs:List MV)(v:Value):Prop:=∃vs a k,h.get? a=some (tS vs k)/\bI ρ n h xs vs/\v= .ref a
theorem a_.tupI(r:a_ ρ n h x v)(e:x.BO=some xs):IsTup ρ n h xs v:=
 r.casesOn (motive_1:=fun x v O=>x.BO=some xs->IsTup ρ n h xs v) bZ (fun O=>bZ) (fun O O=>bZ) (fun O O=>bZ) (fun O O=>bZ) (fun ha rs e=>(d9 e:_=xs)▸(⟨_,_,_,ha,rs,rfl⟩:IsTup ρ n h _ _)) (fun O=>bZ) (fun O=>bZ) (fun O=>bZ) e
theorem a_.rr{u:Value}(r:a_ ρ n h x v)(e:x.PD=some u):v=u:=
 r.casesOn (motive_1:=fun x v O=>x.PD=some u->v=u) bZ (fun O=>bZ) (fun O O=>bZ) (fun O O=>bZ) (fun O O=>bZ) (fun O O=>bZ) (fun O=>bZ) (fun O=>bZ) (fun O e=>d9 e) e
theorem bI.one(r:bI ρ n h [x] vs):∃u,vs= [u]/\a_ ρ n h x u:=by
 cases r.f2 with
 |cons a q=>cases q;exact⟨_,rfl,a⟩
theorem bI.two{y:MV}(r:bI ρ n h [x,y] vs):∃u v,vs= [u,v]/\a_ ρ n h x u/\a_ ρ n h y v:=by
 cases r.f2 with
 |cons a q=>obtain⟨v,rfl,b⟩:=(bI.of q).one;exact⟨_,_,rfl,a,b⟩
end
inductive gL (w:World) (ρ:Nat->Addr) (n:Nat) (h:Heap):List (Str×MV)->List DictEntry->Prop where
 |nil:gL w ρ n h [] []
 |cons {k:Str} {t:Tok} {x:MV} {v:Value} {fs:List (Str×MV)} {es:List DictEntry}:a_ ρ n h x v->gL w ρ n h fs es->gL w ρ n h ((k,x)::fs) (⟨PyData.keyHash w.params k,.str k t,v⟩::es)
inductive fi (ρ:Nat->Addr) (n:Nat) (h:Heap):List (Int×MV)->List (Int×Value)->Prop where
 |nil:fi ρ n h [] []
 |cons {k:Int} {x:MV} {v:Value} {fs:List (Int×MV)} {es:List (Int×Value)}:a_ ρ n h x v->fi ρ n h fs es->fi ρ n h ((k,x)::fs) ((k,v)::es)
def mT(prog:Program)(w:World)(ρ:Nat->Addr)(n:Nat)(h:Heap)(i:Nat):MO->Obj->Prop
 | .list xs,o=>∃vs e,o=fP vs e/\bI ρ n h xs vs
 | .ba b,o=>o=pq b
 | .inst C,o=>i+1<n/\o=instObj C (ρ (i+1))
 | .dP fs,o=>∃es e,o=dictOf es e/\gL w ρ n h fs es
 | .dict es,o=>o.cls= .type "dict"/\(i<n/\ρ i≠sysModules)/\∃kvs,o.IsDictOf (intKind prog w) kvs/\fi ρ n h es kvs
 | .tR n,o=>o.ExactSet/\∃es ep t,o.data= .set es ep t/\t.fits es.size=true/\es.size=n
 | .bad,_=>False
section
variable {prog:Program}{w:World}{ρ ρ':Nat->Addr}{n n':Nat}{h h':Heap}{i:Nat}
theorem gL.mono(k:lu ρ n h ρ' n' h'){fs:List (Str×MV)}{es:List DictEntry}(r:gL w ρ n h fs es):gL w ρ' n' h' fs es:=by
 induction r with
 |nil=>exact .nil
 |cons a _ ih=>exact .cons (a.mono k) ih
theorem fi.mono(k:lu ρ n h ρ' n' h'){fs:List (Int×MV)}{es:List (Int×Value)}(r:fi ρ n h fs es):fi ρ' n' h' fs es:=by
 induction r with
 |nil=>exact .nil
 |cons a _ ih=>exact .cons (a.mono k) ih
theorem mT.mono(k:lu ρ n h ρ' n' h')(r:mT prog w ρ n h i mo o):mT prog w ρ' n' h' i mo o:=by
 cases mo with
 |list xs=>obtain⟨vs,e,a,b⟩:=r;exact⟨vs,e,a,b.mono k⟩
 |ba b=>exact r
 |inst C=>exact⟨eE r.1 k.n,by rw [k.ρ _ r.1];exact r.2⟩
 |dP fs=>obtain⟨es,e,a,b⟩:=r;exact⟨es,e,a,b.mono k⟩
 |dict es=>obtain⟨c,⟨c1,c2⟩,kvs,a,b⟩:=r;exact⟨c,⟨eE c1 k.n,by rw [k.ρ _ c1];exact c2⟩,kvs,a,b.mono k⟩
 |tR k=>exact r
 |bad=>exact r
theorem mT.cls(r:mT prog w ρ n h i mo o):o.cls= .type "list"\/o.cls= .type "bytearray"\/o.cls= .type "dict"\/o.cls= .type "set"\/∃C,o.cls= .ref C:=by
 cases mo with
 |list xs=>obtain⟨vs,e,rfl,b⟩:=r;exact .inl rfl
 |ba b=>cases r;exact .inr (.inl rfl)
 |inst C=>exact .inr (.inr (.inr (.inr ⟨C,by rw [r.2]⟩)))
 |tR k=>exact .inr (.inr (.inr (.inl r.1.1)))
 |dP fs=>obtain⟨es,e,rfl,b⟩:=r;exact .inr (.inr (.inl rfl))
 |dict es=>exact .inr (.inr (.inl r.1))
 |bad=>exact r.elim
theorem l_.cls(f:l_ o):o.cls= .type "tuple"\/o.cls= .type "range":=by
 rcases f with⟨vs,m,rfl⟩|⟨a,b,t,u,v,rfl⟩
 ·exact .inl rfl
 ·exact .inr rfl
theorem mT.Ji(r:mT prog w ρ n h i mo o):¬l_ o:=fun f=>by
 rcases f.cls with e|e <;> rcases r.cls with q|q|q|q|⟨C,q⟩ <;> rw [e] at q <;> simp at q
end
section
variable {o:MO}
theorem MO.jO{k:List MV}(e:o.gR=some k):o= .list k:=by
 cases o with
 |list j=>exact congrArg _ (d9 e)
 |_=>exact bZ e
theorem MO.Un(e:o.Kq=some k):o= .ba k:=by
 cases o with
 |ba j=>exact congrArg _ (d9 e)
 |_=>exact bZ e
theorem MO.instI{k:Addr}(e:o.inst?=some k):o= .inst k:=by
 cases o with
 |inst j=>exact congrArg _ (d9 e)
 |_=>exact bZ e
theorem MO.Mb{k:List (Str×MV)}(e:o.EP=some k):o= .dP k:=by
 cases o with
 |dP j=>exact congrArg _ (d9 e)
 |_=>exact bZ e
theorem MO.Uo{k:List (Int×MV)}(e:o.Hw=some k):o= .dict k:=by
 cases o with
 |dict j=>exact congrArg _ (d9 e)
 |_=>exact bZ e
end
structure OK (prog:Program) (w:World) (g:Heap) (s:Shared) (ρ:Nat->Addr) (m:MH):Prop where
 base:Base w g
 sub:Sub g s.heap
 inj:∀i j,i<m.n->j<m.n->ρ i=ρ j->i=j
 out:∀i,i<m.n->g.get? (ρ i)=none
 ob:∀i,i<m.n->∃o,s.heap.get? (ρ i)=some o/\mT prog w ρ m.n s.heap i (m.ob i) o
structure dh (T:Addr->Prop) (s:Shared) (ρ:Nat->Addr) (m:MH) (s':Shared) (ρ':Nat->Addr) (m':MH):Prop where
 ix:∀i,i<m.n->ρ' i=ρ i
 n:m.n<=m'.n
 new:∀i,m.n<=i->i<m'.n->s.heap.get? (ρ' i)=none
 alive:∀a o,s.heap.get? a=some o->∃o',s'.heap.get? a=some o'
 nO:∀a o,s.heap.get? a=some o->l_ o->s'.heap.get? a=some o
 keep:∀a o,s.heap.get? a=some o->(∀i,i<m.n->ρ i≠a)->¬T a->s'.heap.get? a=some o
 os:s'.os=s.os
 gens:s'.gens=s.gens
def fo:Addr->Prop:=fun O=>False
section
variable {prog:Program}{w:World}{g:Heap}{s s' kL:Shared}{ρ ρ' PE:Nat->Addr}{m m' PF:MH}{T T':Addr->Prop}
theorem dh.mono(e:dh T s ρ m s' ρ' m'):lu ρ m.n s.heap ρ' m'.n s'.heap:=⟨e.ix,e.n,e.nO⟩
theorem dh.refl:dh T s ρ m s ρ m:=⟨fun O O=>rfl,dU _,fun i a b=>absurd b (Nat.not_lt.mpr a),fun O o e=>⟨o,e⟩,fun O O e O=>e,fun O O e O O=>e,rfl,rfl⟩
theorem dh.old(a:dh T s ρ m s' ρ' m'){x:Addr}(h:s'.heap.get? x=none):s.heap.get? x=none:=by
 cases e:s.heap.get? x with
 |none=>rfl
 |some o=>
  obtain⟨o',q⟩:=a.alive x o e;rw [h] at q;cases q
theorem dh.trans(a:dh T s ρ m s' ρ' m')(b:dh T' s' ρ' m' kL PE PF)(hT:∀x o,s.heap.get? x=some o->T' x->T x):dh T s ρ m kL PE PF where
 ix:=fun i hi=>(b.ix i (eE hi a.n)).trans (a.ix i hi)
 n:=jc a.n b.n
 new:=fun i h1 h2=>by
  by_cases h:i<m'.n
  ·rw [b.ix i h];exact a.new i h1 h
  ·exact a.old (b.new i (Nat.le_of_not_lt h) h2)
 alive:=fun x o e=>let⟨o',q⟩:=a.alive x o e;b.alive x o' q
 nO:=fun x o e f=>b.nO x o (a.nO x o e f) f
 keep:=fun x o e h1 h2=>b.keep x o (a.keep x o e h1 h2) (fun i hi q=>by
  by_cases h:i<m.n
  ·exact h1 i h ((a.ix i h).symm.trans q)
  ·have:=a.new i (Nat.le_of_not_lt h) hi;rw [q,e] at this;cases this) fun q=>h2 (hT x o e q)
 os:=b.os.trans a.os
 gens:=b.gens.trans a.gens
theorem dh.comp(a:dh T s ρ m s' ρ' m')(b:dh T s' ρ' m' kL PE PF):dh T s ρ m kL PE PF:=a.trans b fun O O O h=>h
theorem dh.weak(a:dh fo s ρ m s' ρ' m'):dh T s ρ m s' ρ' m':=⟨a.ix,a.n,a.new,a.alive,a.nO,fun x o e h O=>a.keep x o e h (fun q=>q),a.os,a.gens⟩
theorem dh.drop(a:dh T s ρ m s' ρ' m')(h:∀x,T x->s.heap.get? x=none):dh fo s ρ m s' ρ' m':=
 ⟨a.ix,a.n,a.new,a.alive,a.nO,fun x o e h1 O=>a.keep x o e h1 (fun q=>by rw [h x q] at e;cases e),a.os,a.gens⟩
theorem OK.grow(S:OK prog w g s ρ m)(k:Sub s.heap s'.heap):OK prog w g s' ρ m:=
 ⟨S.base,fun a o e=>k a o (S.sub a o e),S.inj,S.out,fun i hi=>let⟨o,a,b⟩:=S.ob i hi;⟨o,k _ _ a,b.mono ⟨fun O O=>rfl,dU _,fun a o e O=>k a o e⟩⟩⟩
theorem dh.grow(k:Sub s.heap s'.heap)(ho:s'.os=s.os)(hg:s'.gens=s.gens):dh T s ρ m s' ρ m:=
 ⟨fun O O=>rfl,dU _,fun i a b=>absurd b (Nat.not_lt.mpr a),fun a o e=>⟨o,k a o e⟩,fun a o e O=>k a o e,fun a o e O O=>k a o e,ho,hg⟩
theorem OK.now(S:OK prog w g s ρ m):Base w s.heap:=S.base.keeps S.sub
structure Hid (g:Heap) (s:Shared) (ρ:Nat->Addr) (m:MH) (X:Addr->Prop):Prop where
 g:∀a,X a->g.get? a=none
 ρ:∀a,X a->∀i,i<m.n->ρ i≠a
 nO:∀a o,X a->s.heap.get? a=some o->¬l_ o
theorem OK.kO(S:OK prog w g s ρ m)(H:Hid g s ρ m X)(k:∀a o,¬X a->s.heap.get? a=some o->s'.heap.get? a=some o):OK prog w g s' ρ m where
 base:=S.base
 sub:=fun a o e=>k a o (fun x=>by rw [H.g a x] at e;cases e) (S.sub a o e)
 inj:=S.inj
 out:=S.out
 ob:=fun i hi=>let⟨o,a,b⟩:=S.ob i hi
  ⟨o,k _ _ (fun x=>H.ρ _ x i hi rfl) a,b.mono ⟨fun O O=>rfl,dU _,fun a o e f=>k a o (fun x=>H.nO a o x e f) e⟩⟩
theorem dh.kO(H:Hid g s ρ m X)(k:∀a o,¬X a->s.heap.get? a=some o->s'.heap.get? a=some o)(hX:∀a,X a->T a)(z:∀a,X a->∃o,s'.heap.get? a=some o)(ho:s'.os=s.os)(hg:s'.gens=s.gens):dh T s ρ m s' ρ m:=
 ⟨fun O O=>rfl,dU _,fun i a b=>absurd b (Nat.not_lt.mpr a),fun a o e=>Classical.byCases (fun x:X a=>z a x) fun x=>⟨o,k a o x e⟩,fun a o e f=>k a o (fun x=>H.nO a o x e f) e,fun a o e O h=>k a o (fun x=>h (hX a x)) e,ho,hg⟩
theorem OK.put(S:OK prog w g s ρ m)(hi:i<m.n)(k:∀a o,a≠ρ i->s.heap.get? a=some o->s'.heap.get? a=some o)(ho:s'.heap.get? (ρ i)=some o)
  (hr:lu ρ m.n s.heap ρ m.n s'.heap->mT prog w ρ m.n s'.heap i mo o):OK prog w g s' ρ (m.set i mo):=by
 have hf:lu ρ m.n s.heap ρ m.n s'.heap:=⟨fun O O=>rfl,dU _,fun a o e f=>k a o (fun q=>by
  obtain⟨o',a',b'⟩:=S.ob i hi;subst q;rw [e] at a';cases a';exact b'.Ji f) e⟩
 refine⟨S.base,fun a o e=>k a o (fun q=>by rw [q,S.out i hi] at e;cases e) (S.sub a o e),S.inj,S.out,fun j hj=> ?_⟩
 by_cases h:j=i
 ·subst h;exact⟨o,ho,by show mT prog w ρ m.n s'.heap j (if j=j then mo else m.ob j) o;rw [if_pos rfl];exact hr hf⟩
 ·obtain⟨o',a,b⟩:=S.ob j hj;refine⟨o',k _ _ (fun q=>h (S.inj j i hj hi q)) a, ?_⟩;show mT prog w ρ m.n s'.heap j (if j=i then mo else m.ob j) o';rw [if_neg h];exact b.mono hf
theorem dh.put(S:OK prog w g s ρ m)(hi:i<m.n)(k:∀a o,a≠ρ i->s.heap.get? a=some o->s'.heap.get? a=some o)(z:∃o,s'.heap.get? (ρ i)=some o)(ho:s'.os=s.os)(hg:s'.gens=s.gens):
  dh T s ρ m s' ρ (m.set i mo):=
 ⟨fun O O=>rfl,dU _,fun i a b=>absurd b (Nat.not_lt.mpr a),fun a o e=>Classical.byCases (fun x:a=ρ i=>x▸z) fun x=>⟨o,k a o x e⟩,fun a o e f=>k a o (fun q=>by
  obtain⟨o',a',b'⟩:=S.ob i hi;subst q;rw [e] at a';cases a';exact b'.Ji f) e,fun a o e h O=>k a o (fun q=>h i hi q.symm) e,ho,hg⟩
noncomputable def eQ(ρ:Nat->Addr)(i:Nat)(a:Addr):Nat->Addr:=fun j=>if j=i then a else ρ j
theorem el:eQ ρ i a i=a:=if_pos rfl
theorem adg(h:j≠i):eQ ρ i a j=ρ j:=if_neg h
theorem fD{n:Nat}(h:j<n):eQ ρ n a j=ρ j:=if_neg (Nat.ne_of_lt h)
theorem OK.new(S:OK prog w g s ρ m)(ha:s.heap.get? a=some o)(hg:g.get? a=none)(hn:∀i,i<m.n->ρ i≠a)
  (hr:lu ρ m.n s.heap (eQ ρ m.n a) (m.n+1) s.heap->mT prog w (eQ ρ m.n a) (m.n+1) s.heap m.n mo o):OK prog w g s (eQ ρ m.n a) (m.new mo):=by
 have hf:lu ρ m.n s.heap (eQ ρ m.n a) (m.n+1) s.heap:=⟨fun O h=>fD h,Nat.le_succ _,fun O O e O=>e⟩;refine⟨S.base,S.sub,fun i j hi hj q=> ?_,fun i hi=> ?_,fun i hi=> ?_⟩
 ·change i<m.n+1 at hi;change j<m.n+1 at hj;rcases Nat.lt_succ_iff_lt_or_eq.mp hi with h1|rfl <;> rcases Nat.lt_succ_iff_lt_or_eq.mp hj with h2|rfl
  ·rw [fD h1,fD h2] at q;exact S.inj i j h1 h2 q
  ·rw [fD h1,el] at q;exact absurd q (hn i h1)
  ·rw [fD h2,el] at q;exact absurd q.symm (hn j h2)
  ·rfl
 ·change i<m.n+1 at hi;rcases Nat.lt_succ_iff_lt_or_eq.mp hi with h1|rfl
  ·rw [fD h1];exact S.out i h1
  ·rw [el];exact hg
 ·change i<m.n+1 at hi;show∃o,s.heap.get? (eQ ρ m.n a i)=some o/\mT prog w (eQ ρ m.n a) (m.n+1) s.heap i (if i=m.n then mo else m.ob i) o;rcases Nat.lt_succ_iff_lt_or_eq.mp hi with h1|rfl
  ·obtain⟨o',x,y⟩:=S.ob i h1;rw [fD h1,if_neg (Nat.ne_of_lt h1)];exact⟨o',x,y.mono hf⟩
  ·rw [el,if_pos rfl];exact⟨o,ha,hr hf⟩
theorem dh.wc(h:s.heap.get? a=none):∀(e:dh T s ρ m s' ρ' m'),dh T s ρ m s' (eQ ρ' m'.n a) (m'.new mo):=fun e=>
 ⟨fun i hi=>(fD (eE hi e.n)).trans (e.ix i hi),Nat.le_succ_of_le e.n,fun i h1 h2=>by
  change i<m'.n+1 at h2;rcases Nat.lt_succ_iff_lt_or_eq.mp h2 with h3|rfl
  ·rw [fD h3];exact e.new i h1 h3
  ·rw [el];exact h,e.alive,e.nO,e.keep,e.os,e.gens⟩
theorem cA(h:Heap):h.get? h.objs.size=none:=by
 cases q:h.get? h.objs.size with
 |none=>rfl
 |some o=>exact absurd (Heap.lt_size q) (Nat.lt_irrefl _)
theorem OK.pv(S:OK prog w g s ρ m)(h:s.heap.get? a=none):g.get? a=none:=by
 cases q:g.get? a with
 |none=>rfl
 |some o=>rw [S.sub _ _ q] at h;cases h
theorem OK.lD(S:OK prog w g s ρ m)(h:s.heap.get? a=none):∀i,i<m.n->ρ i≠a:=fun i hi q=>by
 obtain⟨o,e,_⟩:=S.ob i hi;rw [q,h] at e;cases e
end
end
section
noncomputable abbrev MM(α:Type):=MH->Option (α×MH)
namespace MM
noncomputable def ret{α:Type}(a:α):MM α:=fun m=>some (a,m)
noncomputable def bind{α β:Type}(c:MM α)(f:α->MM β):MM β:=fun m=>match c m with
 |none=>none
 |some (a,m')=>f a m'
noncomputable def fail{α:Type}:MM α:=fun O=>none
theorem lE{α:Type}{a b:α}{m m':MH}(h:ret a m=some (b,m')):b=a/\m'=m:=by cases h;exact⟨rfl,rfl⟩
theorem bind_some{α β:Type}{c:MM α}{f:α->MM β}{b:β}{m m':MH}(h:bind c f m=some (b,m')):∃a m1,c m=some (a,m1)/\f a m1=some (b,m'):=by
 unfold bind at h
 split at h
 ·cases h
 ·exact⟨_,_,‹_›,h⟩
end MM
theorem bj{α β:Type}{o:Option α}{f:α->Option β}{r:β}(h:o.bind f=some r):∃x,o=some x/\f x=some r:=by
 cases o with
 |none=>exact bZ h
 |some x=>exact⟨x,rfl,h⟩
structure Sg where
 ks:List Str
 gs:List Str
 nm:List (Str×NameKind)
noncomputable def slot(fr:av)(i:Nat):Option MV:=match fr[i]? with
 |some o=>o
 |none=>none
def y7(ρ:Nat->Addr)(n:Nat)(h:Heap):Option MV->Option Value->Prop
 |none,_=>True
 |some x,o=>∃v,o=some v/\a_ ρ n h x v
theorem y7.mono{ρ ρ':Nat->Addr}{n n':Nat}{h h':Heap}(k:lu ρ n h ρ' n' h'):∀ {x:Option MV} {o:Option Value},y7 ρ n h x o->y7 ρ' n' h' x o
 |none,_,_=>trivial
 |some _,_,⟨v,e,r⟩=>⟨v,e,r.mono k⟩
structure y8 (sg:Sg) (env:Env):Prop where
 kind:env.scope.kind= .function
 nm:env.scope.names=sg.nm
 PG:env.globals=mainGlobals
 bui:env.builtins=builtinsNs
 vars:∀x,x∈sg.ks->(sg.nm.lookup x=some .local\/sg.nm.lookup x=some .cell)
 Up:∀x,x∈sg.gs->sg.nm.lookup x=some .globalImplicit
 nd:sg.ks.Nodup
 dbk:∀x,x∈sg.ks->(x==("__debug__":Str))=false
 dbg:∀x,x∈sg.gs->(x==("__debug__":Str))=false
def Own(env:Env)(a:Addr):Prop:=a=env.locals\/∃x,env.cells.lookup x=some a
structure dw (sg:Sg) (env:Env) (fr:av) (g:Heap) (s:Shared) (ρ:Nat->Addr) (n:Nat):Prop where
 ev:y8 sg env
 loc:∃mp,s.heap.Ns env.locals mp/\∀i x,sg.ks[i]? =some x->sg.nm.lookup x=some .local->y7 ρ n s.heap (slot fr i) (mp x)
 y9:∀i x,sg.ks[i]? =some x->sg.nm.lookup x=some .cell->∃a v,env.cells.lookup x=some a/\s.heap.IsCell a v/\y7 ρ n s.heap (slot fr i) v
 own:∀a,Own env a->g.get? a=none/\(∀i,i<n->ρ i≠a)/\∃o,s.heap.get? a=some o
 ap:∀x y a,env.cells.lookup x=some a->env.cells.lookup y=some a->x=y
section
variable {prog:Program}{w:World}{g:Heap}{s s':Shared}{ρ ρ':Nat->Addr}{m m':MH}{sg:Sg}{env:Env}{fr:av}
theorem Hx{h h':Heap}{a:Addr}{mp:Str->Option Value}(x:h.Ns a mp)(k:∀o,h.get? a=some o->h'.get? a=some o):h'.Ns a mp:=x.imp fun o=>Exists.imp fun O=>Exists.imp fun O=>And.imp_left (k o)
theorem u7{h h':Heap}{a:Addr}{v:Option Value}(x:h.IsCell a v)(k:∀o,h.get? a=some o->h'.get? a=some o):h'.IsCell a v:=x.imp fun o=>And.imp_left (k o)
theorem dw.dQ(F:dw sg env fr g s ρ m.n)(V:dh fo s ρ m s' ρ' m'):dw sg env fr g s' ρ' m'.n:=by
 have kp:∀a,Own env a->∀o,s.heap.get? a=some o->s'.heap.get? a=some o:=fun a ha o e=>V.keep a o e (F.own a ha).2.1 (fun q=>q);refine⟨F.ev, ?_, ?_, ?_,F.ap⟩
 ·obtain⟨mp,h1,h2⟩:=F.loc;exact⟨mp,Hx h1 (kp _ (.inl rfl)),fun i x a b=>(h2 i x a b).mono V.mono⟩
 ·intro i x a b;obtain⟨c,v,h1,h2,h3⟩:=F.y9 i x a b;exact⟨c,v,h1,u7 h2 (kp _ (.inr ⟨_,h1⟩)),h3.mono V.mono⟩
 ·intro a ha;obtain⟨h1,h2,h3⟩:=F.own a ha;obtain⟨o,ho⟩:=h3;refine⟨h1,fun i hi q=> ?_,V.alive _ _ ho⟩
  by_cases h:i<m.n
  ·exact h2 i h ((V.ix i h).symm.trans q)
  ·have:=V.new i (Nat.le_of_not_lt h) hi;rw [q,ho] at this;cases this
end
def dj(n:Nat)(A:Around):Prop:=A.depth+3*n<recursionLimit/\A.units+16*n+12<cLine/\A.handled=none
theorem dj.less{n m:Nat}{A:Around}(h:dj n A)(hm:m<=n):dj m A:=⟨by have:=h.1;exact Y2 hm this,by have:=h.2.1;exact Y3 hm this,h.2.2⟩
theorem dj.deeper{n:Nat}{A:Around}{env:Env}(h:dj (n+1) A):dj n (A.deeper env):=⟨Rj h.1,Y4 h.2.1,h.2.2⟩
abbrev lx{α β:Type}(prog:Program)(w:World)(g:Heap)(T:Addr->Prop)(R:(Nat->Addr)->Nat->Heap->β->α->Prop)(s:Shared)(ρ:Nat->Addr)(m:MH)(b:β)(m':MH)(a:α)(s':Shared):Prop:=
 ∃ρ',OK prog w g s' ρ' m'/\dh T s ρ m s' ρ' m'/\R ρ' m'.n s'.heap b a
abbrev cX:Value->Shared->Prop:=fun O O=>False
def Comes{α β:Type}(R:(Nat->Addr)->Nat->Heap->β->α->Prop)(s:Shared)(ρ:Nat->Addr)(m:MH)(prog:Program)(w:World)(g:Heap)(A:Around)(r:Option (β×MH))(t:Sem α):Prop:=match r with
 |none=>True
 |some (b,m')=>ay s cX A (model prog w) (lx prog w g fo R s ρ m b m') t
abbrev Uq{α:Type}:(Nat->Addr)->Nat->Heap->α->α->Prop:=fun O O O b a=>a=b
def cD(n:Nat)(sg:Sg)(e:Expr)(c:av->MM MV):Prop:=
 ∀prog w A g env fr s ρ m,dj n A->OK prog w g s ρ m->dw sg env fr g s ρ m.n->Comes a_ s ρ m prog w g A (c fr m) (eval e env)
def pw(prog:Program)(w:World)(g:Heap)(n:Nat)(sg:Sg)(e:Expr)(c:av->MM MV):Prop:=
 ∀A env fr s ρ m,dj n A->OK prog w g s ρ m->dw sg env fr g s ρ m.n->Comes a_ s ρ m prog w g A (c fr m) (eval e env)
theorem cD.toG{prog:Program}{w:World}{g:Heap}{n:Nat}{sg:Sg}{e:Expr}{c:av->MM MV}(h:cD n sg e c):pw prog w g n sg e c:=fun A env fr s ρ m=>h prog w A g env fr s ρ m
def qW(n:Nat)(sg:Sg)(e:Expr)(c:av->MM Bool):Prop:=
 ∀prog w A g env fr s ρ m,dj n A->OK prog w g s ρ m->dw sg env fr g s ρ m.n->Comes Uq s ρ m prog w g A (c fr m) (PySem.isTrue e env (eval e env))
def nP(n:Nat)(sg:Sg)(es:List Expr)(c:av->MM (List MV)):Prop:=
 ∀prog w A g env fr s ρ m pos,dj n A->OK prog w g s ρ m->dw sg env fr g s ρ m.n->Comes bI s ρ m prog w g A (c fr m) (spliced (backTo pos (starEach es env)))
def nQ(op:Operator)(f:MV->MV->MM MV):Prop:=
 ∀prog w A g s ρ m x y a b,dj 0 A->OK prog w g s ρ m->a_ ρ m.n s.heap x a->a_ ρ m.n s.heap y b->Comes a_ s ρ m prog w g A (f x y m) (binaryOp op a b)
def je(op:CmpOp)(f:MV->MV->MM Bool):Prop:=
 ∀prog w A g s ρ m x y a b,dj 0 A->OK prog w g s ρ m->a_ ρ m.n s.heap x a->a_ ρ m.n s.heap y b->Comes (fun O O O b a=>a=Value.bool b) s ρ m prog w g A (f x y m) (compareOp op a b)
section
variable {α β:Type}{prog:Program}{w:World}{g:Heap}{A:Around}{s s':Shared}{ρ ρ':Nat->Addr}{m m':MH}{sg:Sg}{env:Env}{fr:av}{R:(Nat->Addr)->Nat->Heap->β->α->Prop}
theorem fb{t:Sem α}{M:Model}{Q:α->Shared->Prop}{E:Value->Shared->Prop}(h:ay s cX A M Q t):ay s E A M Q t:=au h (fun O O q=>q) fun O O q=>q.elim
theorem Comes.at{t:Sem α}{b:β}{r:Option (β×MH)}(h:Comes R s ρ m prog w g A r t)(e:r=some (b,m')):ay s cX A (model prog w) (lx prog w g fo R s ρ m b m') t:=by rw [e] at h;exact h
theorem Comes.of{t:Sem α}{r:Option (β×MH)}(k:∀b m',r=some (b,m')->ay s cX A (model prog w) (lx prog w g fo R s ρ m b m') t):Comes R s ρ m prog w g A r t:=by
 cases r with
 |none=>exact True.intro
 |some x=>exact k x.1 x.2 rfl
theorem Comes.bind{γ:Type}{t:Sem α}{c:MM γ}{f:γ->MM β}(k:∀x m1,c m'=some (x,m1)->Comes R s ρ m prog w g A (f x m1) t):Comes R s ρ m prog w g A (MM.bind c f m') t:=by
 unfold MM.bind;cases h:c m' with
 |none=>exact True.intro
 |some x=>exact k x.1 x.2 h
theorem Comes.ite{t:Sem α}{r:Option (β×MH)}{c:Prop}[Decidable c](k:c->Comes R s ρ m prog w g A r t):Comes R s ρ m prog w g A (if c then r else none) t:=by
 by_cases h:c
 ·rw [if_pos h];exact k h
 ·rw [if_neg h];exact True.intro
theorem Comes.opt{γ:Type}{t:Sem α}{o:Option γ}{f:γ->Option (β×MH)}(k:∀x,o=some x->Comes R s ρ m prog w g A (f x) t):Comes R s ρ m prog w g A (o.bind f) t:=by
 cases o with
 |none=>exact True.intro
 |some x=>exact k x rfl
theorem Comes.step{t:Sem α}{b:β}{r:Option (β×MH)}(h:Comes R s ρ m prog w g A r t)(e:r=some (b,m')){K:α->Shared->Prop}
  (k:∀a s' ρ',OK prog w g s' ρ' m'->dh fo s ρ m s' ρ' m'->R ρ' m'.n s'.heap b a->K a s'):ay s cX A (model prog w) K t:=
 au (h.at e) (fun a s' q=>q.elim fun ρ' q=>k a s' ρ' q.1 q.2.1 q.2.2) fun O O q=>q
theorem Comes.pure{t:Sem α}{b:β}(S:OK prog w g s ρ m)(h:∀K:α->Shared->Prop,(∀a s',s'.heap=s.heap->s'.os=s.os->s'.gens=s.gens->R ρ m.n s.heap b a->K a s')->ay s cX A (model prog w) K t):
  Comes R s ρ m prog w g A (MM.ret b m) t:=
 h _ fun a s' h1 h2 h3 r=>⟨ρ,S.grow (fun a o e=>by rw [h1];exact e),dh.grow (fun a o e=>by rw [h1];exact e) h2 h3,by rw [h1];exact r⟩
end
noncomputable def rd(fr:av)(i:Nat):MM MV:=fun m=>match slot fr i with
 |some v=>some (v,m)
 |none=>none
noncomputable def Kc{α:Type}(a:α):av->MM α:=fun O=>MM.ret a
noncomputable def Rd(i:Nat):av->MM MV:=fun fr=>rd fr i
noncomputable def oG{α β:Type}(c:av->MM β)(f:β->MM α):av->MM α:=fun fr=>MM.bind (c fr) f
noncomputable def tC{α:Type}(c d:av->MM MV)(f:MV->MV->MM α):av->MM α:=fun fr=>MM.bind (c fr) fun a=>MM.bind (d fr) (f a)
noncomputable def rB(b:Bool):MM MV:=MM.ret (.bool b)
noncomputable def rN(b:Bool):MM Bool:=MM.ret (!b)
noncomputable def Jl(c d:av->MM Bool):av->MM Bool:=fun fr=>MM.bind (c fr) fun b=>bif b then d fr else MM.ret false
noncomputable def PH(c d:av->MM Bool):av->MM Bool:=fun fr=>MM.bind (c fr) fun b=>bif b then MM.ret true else d fr
noncomputable def PI(t:av->MM Bool)(c d:av->MM MV):av->MM MV:=fun fr=>MM.bind (t fr) fun b=>bif b then c fr else d fr
noncomputable def AC(c:av->MM MV)(cs:av->MM (List MV)):av->MM (List MV):=fun fr=>MM.bind (c fr) fun x=>MM.bind (cs fr) fun xs=>MM.ret (x::xs)
theorem Mc{fr:av}{i:Nat}{m m':MH}{b:MV}(h:rd fr i m=some (b,m')):slot fr i=some b/\m'=m:=by
 unfold rd at h
 split at h
 ·cases h;exact⟨‹_›,rfl⟩
 ·cases h
section
variable {n:Nat}{sg:Sg}
theorem dJ(i:Nat){x:Str}{p:Pos}(hk:sg.ks[i]? =some x):cD n sg (.Name x p) (Rd i):=by
 intro prog w A g env fr s ρ m hA S F;refine .of fun b m' e=> ?_;obtain⟨h1,rfl⟩:=Mc e;have hm:=jC hk;rcases F.ev.vars x hm with hl|hl
 ·obtain⟨mp,hn,hr⟩:=F.loc;have:=hr i x hk hl;rw [h1] at this;obtain⟨v,e1,r⟩:=this;exact aj (wpAny_Name (wpAny_loadName_local F.ev.kind (by unfold Env.kindOf;rw [F.ev.nm];exact hl) hn e1 ⟨ρ,S,.refl,r⟩) (F.ev.dbk x hm))
 ·obtain⟨a,v',h2,h3,h4⟩:=F.y9 i x hk hl;rw [h1] at h4;obtain⟨v,rfl,r⟩:=h4;exact aj (wpAny_Name (wpAny_loadName_cell F.ev.kind (by unfold Env.kindOf;rw [F.ev.nm];exact hl) h2 h3 ⟨ρ,S,.refl,r⟩) (F.ev.dbk x hm))
end
def Ur(w:World)(x:Str)(v:Value):Prop:=nsIn (KK w) mainGlobals x=some (some v)\/(nsIn (KK w) mainGlobals x=some none/\bootBuiltins x=some v/\x≠"__name__")
def bF(x:Str)(b:MV):Prop:=∀w,∃v,Ur w x v/\∀ρ n h,a_ ρ n h b v
section
variable {n:Nat}{sg:Sg}
theorem bA{x:Str}{p:Pos}{v:MV}(hk:x∈sg.gs)(hv:bF x v):cD n sg (.Name x p) (Kc v):=by
 intro prog w A g env fr s ρ m hA S F;refine Comes.pure S fun K k=> ?_;obtain⟨v',hg,hr⟩:=hv w;have hl:env.kindOf x=some .globalImplicit:=by unfold Env.kindOf;rw [F.ev.nm];exact F.ev.Up x hk
 obtain⟨mg,mb,G,Bu,hB⟩:=S.now.top;rcases hg with h|⟨h1,h2,h3⟩
 ·exact aj (Name_function_global F.ev.kind hl (loadGlobal_global (F.ev.PG▸G) (mg_of S.now.X G h) (k _ _ rfl rfl rfl (hr _ _ _))) (F.ev.dbg x hk))
 ·exact aj (Name_function_global F.ev.kind hl (loadGlobal_builtin (F.ev.PG▸G) (mg_none_of S.now.X G h1) (F.ev.bui▸Bu) ((hB x h3).trans h2) (k _ _ rfl rfl rfl (hr _ _ _))) (F.ev.dbg x hk))
theorem ag{i:Int}{k:Nat}{p:Pos}:cD n sg (.Constant (.int i) k p) (Kc (.int i)):=fun prog w A g env fr s ρ m hA S F=>
 Comes.pure S fun K k=>aj (wpAny_Constant_int (k _ _ rfl rfl rfl (.int _ _)))
theorem cH{i:Str}{k:Nat}{p:Pos}:cD n sg (.Constant (.str i) k p) (Kc (.str i)):=fun prog w A g env fr s ρ m hA S F=>
 Comes.pure S fun K k=>aj (wpAny_Constant_str (k _ _ rfl rfl rfl (.str _ _)))
theorem d_{k:Nat}{p:Pos}:cD n sg (.Constant .none k p) (Kc .none):=fun prog w A g env fr s ρ m hA S F=>
 Comes.pure S fun K k=>aj (wpAny_Constant_none (k _ _ rfl rfl rfl .none))
theorem jf{b:Bool}{k:Nat}{p:Pos}:cD n sg (.Constant (.bool b) k p) (Kc (.bool b)):=fun prog w A g env fr s ρ m hA S F=>
 Comes.pure S fun K k=>aj (wpAny_Constant_bool (k _ _ rfl rfl rfl (.bool _)))
theorem ak{l r:Expr}{op:Operator}{p:Pos}{cl cr:av->MM MV}{f:MV->MV->MM MV}(hl:cD n sg l cl)(hr:cD n sg r cr)(ho:nQ op f):
  cD n sg (.BinOp l op r p) (tC cl cr f):=by
 intro prog w A g env fr s ρ m hA S F;refine .bind fun x m1 e1=> .bind fun y m2 e2=> .of fun b m' e=> ?_;refine Hq ((hl _ _ A _ _ _ _ _ _ hA S F).step e1 fun a s1 ρ1 S1 V1 r1=> ?_);refine(hr _ _ A _ _ _ _ _ _ hA S1 (F.dQ V1)).step e2 fun c s2 ρ2 S2 V2 r2=> ?_;refine(ho _ _ A _ _ _ _ _ _ _ _ (hA.less (Nat.zero_le _)) S2 (r1.mono V2.mono) r2).step e fun v s3 ρ3 S3 V3 r3=>⟨ρ3,S3,(V1.comp V2).comp V3,r3⟩
theorem BP{l r:Expr}{op:CmpOp}{p:Pos}{cl cr:av->MM MV}{f:MV->MV->MM Bool}(hl:cD n sg l cl)(hr:cD n sg r cr)(ho:je op f)(hm:behindInMarks op r=false):
  cD n sg (.Compare l [op] [r] p) (oG (tC cl cr f) rB):=by
 intro prog w A g env fr s ρ m hA S F;refine .bind fun z m3 e=> ?_;obtain⟨x,m1,e1,e⟩:=MM.bind_some e;obtain⟨y,m2,e2,e3⟩:=MM.bind_some e;refine tQ ((hl _ _ A _ _ _ _ _ _ hA S F).step e1 fun a s1 ρ1 S1 V1 r1=> ?_) hm;refine(hr _ _ A _ _ _ _ _ _ hA S1 (F.dQ V1)).step e2 fun c s2 ρ2 S2 V2 r2=> ?_;refine(ho _ _ A _ _ _ _ _ _ _ _ (hA.less (Nat.zero_le _)) S2 (r1.mono V2.mono) r2).step e3 fun v s3 ρ3 S3 V3 r3=>⟨ρ3,S3,(V1.comp V2).comp V3,by rw [r3];exact .bool _⟩
theorem aD{l r:Expr}{op:CmpOp}{p:Pos}{cl cr:av->MM MV}{f:MV->MV->MM Bool}(hl:cD n sg l cl)(hr:cD n sg r cr)(ho:je op f)(hm:behindInMarks op r=false):
  qW n sg (.Compare l [op] [r] p) (tC cl cr f):=by
 intro prog w A g env fr s ρ m hA S F;refine .bind fun x m1 e1=> .bind fun y m2 e2=> .of fun b m' e=> ?_;refine rM ((hl _ _ A _ _ _ _ _ _ hA S F).step e1 fun a s1 ρ1 S1 V1 r1=> ?_) hm;refine(hr _ _ A _ _ _ _ _ _ hA S1 (F.dQ V1)).step e2 fun c s2 ρ2 S2 V2 r2=> ?_;refine(ho _ _ A _ _ _ _ _ _ _ _ (hA.less (Nat.zero_le _)) S2 (r1.mono V2.mono) r2).step e fun v s3 ρ3 S3 V3 r3=> ?_;subst r3;exact aj (wpAny_truthy_bool ⟨ρ3,S3,(V1.comp V2).comp V3,rfl⟩)
theorem gC{l r₁ r₂:Expr}{o₁ o₂:CmpOp}{p:Pos}{cl c1 c2:av->MM MV}{f1 f2:MV->MV->MM Bool}(hl:cD n sg l cl)(h1:cD n sg r₁ c1)(h2:cD n sg r₂ c2)(u9:je o₁ f1)(px:je o₂ f2)
  (hm:lastMarks [o₁,o₂] [r₁,r₂]=false):
  qW n sg (.Compare l [o₁,o₂] [r₁,r₂] p) fun fr=>MM.bind (cl fr) fun a=>MM.bind (c1 fr) fun b=>MM.bind (f1 a b) fun t=>bif t then MM.bind (c2 fr) fun d=>f2 b d else MM.ret false:=by
 intro prog w A g env fr s ρ m hA S F;refine .bind fun x m1 e1=> .bind fun y m2 e2=> .bind fun t m3 e3=> .of fun b m' e=> ?_;refine y0 hm ((hl _ _ A _ _ _ _ _ _ hA S F).step e1 fun a s1 ρ1 S1 V1 r1=> ?_);refine(h1 _ _ A _ _ _ _ _ _ hA S1 (F.dQ V1)).step e2 fun c s2 ρ2 S2 V2 r2=> ?_;refine(u9 _ _ A _ _ _ _ _ _ _ _ (hA.less (Nat.zero_le _)) S2 (r1.mono V2.mono) r2).step e3 fun v s3 ρ3 S3 V3 r3=> ?_;subst r3;refine aj (wpAny_truthy_bool ?_);cases t with
 |false=>
  obtain⟨rfl,rfl⟩:=MM.lE e;rw [if_neg (by decide)];exact⟨ρ3,S3,(V1.comp V2).comp V3,rfl⟩
 |true=>
  rw [if_pos rfl];obtain⟨z,m4,e4,e⟩:=MM.bind_some e;have F2:=(F.dQ V1).dQ V2;refine(h2 _ _ A _ _ _ _ _ _ hA S3 (F2.dQ V3)).step e4 fun d s4 ρ4 S4 V4 r4=> ?_;refine(px _ _ A _ _ _ _ _ _ _ _ (hA.less (Nat.zero_le _)) S4 ((r2.mono V3.mono).mono V4.mono) r4).step e fun v s5 ρ5 S5 V5 r5=> ?_;subst r5;exact aj (wpAny_truthy_bool ⟨ρ5,S5,(((V1.comp V2).comp V3).comp V4).comp V5,rfl⟩)
theorem f9{x:Expr}{p:Pos}{c:av->MM Bool}(h:qW n sg x c):qW n sg (.UnaryOp .Not x p) (oG c rN):=by
 intro prog w A g env fr s ρ m hA S F;refine .bind fun x m1 e1=> ?_;refine xQ ((h _ _ A _ _ _ _ _ _ hA S F).step e1 fun a s1 ρ1 S1 V1 r1=>⟨ρ1,S1,V1,by rw [r1]⟩)
def y_(op:BoolOp)(n:Nat)(sg:Sg)(es:List Expr)(c:av->MM Bool):Prop:=
 ∀prog w A g env fr s ρ m,dj n A->OK prog w g s ρ m->dw sg env fr g s ρ m.n->Comes Uq s ρ m prog w g A (c fr m) (allTrue op es env)
theorem bG{op:BoolOp}{es:List Expr}{p:Pos}{c:av->MM Bool}(h:y_ op n sg es c):qW n sg (.BoolOp op es p) c:=by
 intro prog w A g env fr s ρ m hA S F;exact .of fun b m' e=>uf ((h _ _ A _ _ _ _ _ _ hA S F).at e)
theorem bS{x:Expr}{es:List Expr}{c cs:av->MM Bool}(h:qW n sg x c)(hs:y_ .And n sg es cs):y_ .And n sg (x::es) (Jl c cs):=by
 intro prog w A g env fr s ρ m hA S F;refine .bind fun x m1 e1=> .of fun b m' e=> ?_;refine rq ((h _ _ A _ _ _ _ _ _ hA S F).step e1 fun a s1 ρ1 S1 V1 r1=> ?_);subst r1;cases a with
 |false=>
  obtain⟨rfl,rfl⟩:=MM.lE e;exact⟨ρ1,S1,V1,rfl⟩
 |true=>exact(hs _ _ A _ _ _ _ _ _ hA S1 (F.dQ V1)).step e fun v s2 ρ2 S2 V2 r2=>⟨ρ2,S2,V1.comp V2,r2⟩
theorem dB:y_ .And n sg [] (Kc true):=by
 intro prog w A g env fr s ρ m hA S F;exact Comes.pure S fun K k=>aj (wpAny_allTrue_And_nil (k _ _ rfl rfl rfl rfl))
theorem b4{x:Expr}{es:List Expr}{c cs:av->MM Bool}(h:qW n sg x c)(hs:y_ .Or n sg es cs):y_ .Or n sg (x::es) (PH c cs):=by
 intro prog w A g env fr s ρ m hA S F;refine .bind fun x m1 e1=> .of fun b m' e=> ?_;refine rO ((h _ _ A _ _ _ _ _ _ hA S F).step e1 fun a s1 ρ1 S1 V1 r1=> ?_);subst r1;cases a with
 |true=>
  obtain⟨rfl,rfl⟩:=MM.lE e;exact⟨ρ1,S1,V1,rfl⟩
 |false=>exact(hs _ _ A _ _ _ _ _ _ hA S1 (F.dQ V1)).step e fun v s2 ρ2 S2 V2 r2=>⟨ρ2,S2,V1.comp V2,r2⟩
theorem dY:y_ .Or n sg [] (Kc false):=by
 intro prog w A g env fr s ρ m hA S F;exact Comes.pure S fun K k=>aj (wpAny_allTrue_Or_nil (k _ _ rfl rfl rfl rfl))
noncomputable def u_(x:MV):MM Bool:=fun m=>x.bool?.bind fun b=>some (b,m)
theorem gu{x:Expr}{c:av->MM MV}(h:cD n sg x c)(he:∀env,PySem.isTrue x env (eval x env)=(do let v <- eval x env;standAt x.pos;holding [v] (truthy v))):qW n sg x (oG c u_):=by
 intro prog w A g env fr s ρ m hA S F;refine .bind fun y m1 e1=> .of fun b m' e=> ?_;refine uZ ((h _ _ A _ _ _ _ _ _ hA S F).step e1 fun a s1 ρ1 S1 V1 r1=> ?_) (he env);obtain⟨b',hb,e⟩:=bj e;cases e;obtain rfl:=r1.CR hb;exact aj (wpAny_truthy_bool ⟨ρ1,S1,V1,rfl⟩)
theorem kP{t b o:Expr}{p:Pos}{ct:av->MM Bool}{cb co:av->MM MV}(ht:qW n sg t ct)(hb:cD n sg b cb)(ho:cD n sg o co):
  cD n sg (.IfExp t b o p) (PI ct cb co):=by
 intro prog w A g env fr s ρ m hA S F;refine .bind fun x m1 e1=> .of fun b m' e=> ?_;refine Hr ((ht _ _ A _ _ _ _ _ _ hA S F).step e1 fun a s1 ρ1 S1 V1 r1=> ?_);subst r1;cases a with
 |true=>exact(hb _ _ A _ _ _ _ _ _ hA S1 (F.dQ V1)).step e fun v s2 ρ2 S2 V2 r2=>⟨ρ2,S2,V1.comp V2,r2⟩
 |false=>exact(ho _ _ A _ _ _ _ _ _ hA S1 (F.dQ V1)).step e fun v s2 ρ2 S2 V2 r2=>⟨ρ2,S2,V1.comp V2,r2⟩
theorem ab:nP n sg [] (Kc []):=by
 intro prog w A g env fr s ρ m pos hA S F;exact Comes.pure S fun K k=>u3 (k _ _ rfl rfl rfl .nil)
theorem eS{e:Expr}{es:List Expr}{c:av->MM MV}{cs:av->MM (List MV)}(h:cD n sg e c)(hs:nP n sg es cs)(he:∀env,starEach (e::es) env=(false,eval e env)::starEach es env):
  nP n sg (e::es) (AC c cs):=by
 intro prog w A g env fr s ρ m pos hA S F;refine .bind fun x m1 e1=> .bind fun y m2 e2=> ?_;refine oN ((h _ _ A _ _ _ _ _ _ hA S F).step e1 fun a s1 ρ1 S1 V1 r1=> ?_) (he env);exact(hs _ _ A _ _ _ _ _ _ pos hA S1 (F.dQ V1)).step e2 fun v s2 ρ2 S2 V2 r2=>⟨ρ2,S2,V1.comp V2,.cons (r1.mono V2.mono) r2⟩
theorem CS{prog:Program}{w:World}{g:Heap}{A:Around}{s:Shared}{ρ:Nat->Addr}{m:MH}{vs:List Value}{xs:List MV}{K:Value->Shared->Prop}(S:OK prog w g s ρ m)(hz:vs.length<=1000)(r:bI ρ m.n s.heap xs vs)
  (k:∀a s',OK prog w g s' ρ m->dh fo s ρ m s' ρ m->a_ ρ m.n s'.heap (.tup xs) (.ref a)->K (.ref a) s'):ay s cX A (model prog w) K (newTuple vs):=by
 refine aj (wpAny_newObj_type ?_ (by show vs.toArray.size<=sizeLine;rw [fX,sizeLine_eq];exact Rx hz));have hs:Sub s.heap (s.heap.push (tS vs 0)):=fun a o e=>gT _ e;have V:dh fo s ρ m {s with heap:=s.heap.push (tS vs 0)} ρ m:= .grow hs rfl rfl;exact k _ _ (S.grow hs) V (.tup (e:=0) (iR _ rfl) (r.mono V.mono))
noncomputable def Mg(xs:List MV):MM MV:=fun m=>if xs.length<=1000 then some (.tup xs,m) else none
theorem b7{es:List Expr}{k:Nat}{p:Pos}{cs:av->MM (List MV)}(hs:nP n sg es cs):cD n sg (.Tuple es k p) (oG cs Mg):=by
 intro prog w A g env fr s ρ m hA S F;refine .bind fun xs m1 e1=> .ite fun hz=> ?_;refine Hu ((hs _ _ A _ _ _ _ _ _ p hA S F).step e1 fun a s1 ρ1 S1 V1 r1=> ?_);exact CS S1 (by rw [<- r1.length];exact hz) r1 fun a s2 S2 V2 r2=>⟨ρ1,S2,V1.comp V2,r2⟩
theorem ER{prog:Program}{w:World}{g:Heap}{A:Around}{s:Shared}{ρ:Nat->Addr}{m:MH}{vs:List Value}{xs:List MV}{K:Value->Shared->Prop}(S:OK prog w g s ρ m)(hz:vs.length<=1000)(r:bI ρ m.n s.heap xs vs)
  (k:∀ρ' s',OK prog w g s' ρ' (m.new (.list xs))->dh fo s ρ m s' ρ' (m.new (.list xs))->K (.ref (ρ' m.n)) s'):ay s cX A (model prog w) K (newList vs):=by
 refine aj (wpAny_newObj_type ?_ (by show vs.toArray.size<=sizeLine;rw [fX,sizeLine_eq];exact Rx hz));have hs:Sub s.heap (s.heap.push (fP vs 0)):=fun a o e=>gT _ e;have V:dh fo s ρ m {s with heap:=s.heap.push (fP vs 0)} ρ m:= .grow hs rfl rfl;have:=k (eQ ρ m.n s.heap.objs.size) _ ((S.grow hs).new (a:=s.heap.objs.size) (iR _ rfl) (S.pv (cA _)) (S.lD (cA _)) fun M=>⟨vs,0,rfl,(r.mono V.mono).mono M⟩) (V.wc (cA _));rw [el] at this;exact this
noncomputable def Mh(xs:List MV):MM MV:=fun m=>if xs.length<=1000 then some (.obj m.n,m.new (.list xs)) else none
theorem cN{es:List Expr}{p:Pos}{cs:av->MM (List MV)}(hs:nP n sg es cs):cD n sg (.List es p) (oG cs Mh):=by
 intro prog w A g env fr s ρ m hA S F;refine .bind fun xs m1 e1=> .ite fun hz=> ?_;refine Kp ((hs _ _ A _ _ _ _ _ _ p hA S F).step e1 fun a s1 ρ1 S1 V1 r1=> ?_);exact ER S1 (by rw [<- r1.length];exact hz) r1 fun ρ2 s2 S2 V2=>⟨ρ2,S2,V1.comp V2,.obj (gA _)⟩
end
end
section
variable {k k':Str}{a v:Value}{fs r:List (Str×MV)}{x y:MV}{es:List DictEntry}{ρ:Nat->Addr}{n:Nat}{h:Heap}{cs:List Addr}{p p':Pos}{c:av->MM MV}{α:Type}{o:Obj}{st:Stmt}{ss:List Stmt}{e:Expr}
noncomputable def ly(k:Str):List (Str×MV)->Option MV
 | []=>none
 |(k',v)::r=>if k'=k then some v else ly k r
noncomputable def vb(k:Str)(x:MV):List (Str×MV)->List (Str×MV)
 | []=> [(k,x)]
 |(k',v)::r=>if k'=k then(k',x)::r else(k',v)::vb k x r
theorem Hy{v:MV}:ly k ((k',v)::r)=if k'=k then some v else ly k r:=rfl
theorem zb{v:MV}:vb k x ((k',v)::r)=if k'=k then(k',x)::r else(k',v)::vb k x r:=rfl
section
variable {w:World}{ρ:Nat->Addr}{n:Nat}{h:Heap}
theorem gL.noRef(R:gL w ρ n h fs es):es.any (·.refKey)=false:=by
 induction R with
 |nil=>rfl
 |cons _ _ ih=>rw [List.any_cons,ih];rfl
theorem gL.find(R:gL w ρ n h fs es):match ly k fs with
  |some x=>∃e,es.find? (fun y=>y.key.isStr k)=some e/\a_ ρ n h x e.val
  |none=>es.find? (fun y=>y.key.isStr k)=none:=by
 induction R with
 |nil=>rfl
 | @cons k' t x v fs es r _ ih=>
  rw [Hy]
  by_cases hk:k'=k
  ·subst hk;rw [if_pos rfl];exact⟨_,List.find?_cons_of_pos (by simp [Value.isStr]),r⟩
  ·rw [if_neg hk,List.find?_cons_of_neg (by simpa [Value.isStr] using hk)];exact ih
theorem gL.get(R:gL w ρ n h fs es)(e:ly k fs=some x):∃v,getL k es=some (some v)/\a_ ρ n h x v:=by
 have:=R.find (k:=k);rw [e] at this;obtain⟨y,h1,h2⟩:=this;exact⟨y.val,by unfold getL;rw [h1],h2⟩
theorem gL.Mi(R:gL w ρ n h fs es)(e:ly k fs=none):getL k es=some none:=by
 have:=R.find (k:=k);rw [e] at this;unfold getL;simp only [this,R.noRef,Bool.false_eq_true,if_false]
theorem gL.put{t:Tok}(R:gL w ρ n h fs es)(r:a_ ρ n h x v):gL w ρ n h (vb k x fs) (putL k (PyData.keyHash w.params k) (.str k t) v es):=by
 induction R with
 |nil=>exact .cons r .nil
 | @cons k' t' y u fs es q _ ih=>
  rw [zb]
  by_cases hk:k'=k
  ·subst hk;rw [if_pos rfl];simp only [putL,Value.isStr,beq_self_eq_true,if_true];exact .cons r ‹_›
  ·rw [if_neg hk];have hb:(Value.str k' t').isStr k=false:=by simpa [Value.isStr] using hk
   simp only [putL,hb,Bool.false_eq_true,if_false];exact .cons q ih
theorem gL.length(R:gL w ρ n h fs es):es.length=fs.length:=by
 induction R with
 |nil=>rfl
 |cons _ _ ih=>simp [ih]
end
theorem vc(k:Str)(x:MV):∀fs:List (Str×MV),(vb k x fs).length<=fs.length+1
 | []=>dU _
 |(k',v)::r=>by
  rw [zb]
  split
  ·simp
  ·have:=vc k x r;simp only [List.length_cons];exact aak this
noncomputable def MV.plain(x:MV):Bool:=Nat.blt x.ctorIdx 8
theorem a_.handed(r:a_ ρ n h x v)(hp:x.plain=true):handedIn v=true:=
 r.casesOn (motive_1:=fun x v O=>x.plain=true->handedIn v=true) (fun O=>rfl) (fun O O=>rfl) (fun O O O=>rfl) (fun O O O=>rfl) (fun O O O=>rfl) (fun O O O=>rfl) (fun O O=>rfl) (fun O O=>rfl) (fun O hp=>Bool.noConfusion hp) hp
noncomputable def vd(cs:List Addr)(k:Str)(x:MV):MM MV:=fun m=>x.ij.bind fun i=>(m.ob i).inst?.bind fun C=>if C∈cs then(m.ob (i+1)).EP.bind fun fs=>(ly k fs).bind fun v=>if v.plain then some (v,m) else none else none
noncomputable def p8(cs:List Addr)(k:Str)(x y:MV):MM Unit:=fun m=>x.ij.bind fun i=>(m.ob i).inst?.bind fun C=>if C∈cs/\i<m.n then(m.ob (i+1)).EP.bind fun fs=>if fs.length<=100 then some ((),m.set (i+1) (.dP (vb k y fs))) else none else none
noncomputable def Mj(K:Frag)(C:Addr)(k:Str):Bool:=plainGet K C k&&hasDictIn K C&&(findIn K (.ref C) k).any fun a=>noGet K a
def fK(C:Addr)(k:Str):Prop:=∀w,Mj (KK w) C k=true
noncomputable def setB(K:Frag)(C:Addr)(k:Str):Bool:=findIn K (.ref C) "__setattr__"==some (some (.builtin "object.__setattr__"))&&plainOver K C&&takerIn K C k==some none&&hasDictIn K C
def fq(C:Addr)(k:Str):Prop:=∀w,setB (KK w) C k=true
noncomputable def Hz(K:Frag)(C:Addr)(k:Str)(f:Addr):Bool:=plainGet K C k&&findIn K (.ref C) k==some (some (.ref f))&&typeIn K (.ref f)==some (.type "function")
def fT(C:Addr)(k:Str)(f:Addr):Prop:=∀w,Hz (KK w) C k f=true
section
variable {prog:Program}{w:World}{g:Heap}{A:Around}{s s':Shared}{ρ ρ':Nat->Addr}{m m':MH}{E:Value->Shared->Prop}
theorem OK.inst(S:OK prog w g s ρ m){i:Nat}{C:Addr}(hi:i<m.n)(h1:m.ob i= .inst C)(h2:m.ob (i+1)= .dP fs):
  i+1<m.n/\∃es e,s.heap.get? (ρ (i+1))=some (dictOf es e)/\gL w ρ m.n s.heap fs es/\W.InstAt s.heap (ρ i) (instObj C (ρ (i+1))) C (some (dictOf es e)):=by
 obtain⟨o,ho,r⟩:=S.ob i hi;rw [h1] at r;obtain⟨hl,rfl⟩:=r;obtain⟨o',hH,r'⟩:=S.ob (i+1) hl;rw [h2] at r';obtain⟨es,e,rfl,R⟩:=r';exact⟨hl,es,e,hH,R,ho,rfl,rfl,hH⟩
theorem Mk{ex:Bool}(hc:∀C,C∈cs->fK C k)(S:OK prog w g s ρ m)(r:a_ ρ m.n s.heap x a):Comes a_ s ρ m prog w g A (vd cs k x m) (getAttr a k ex):=
 .opt fun i hx=> .opt fun C h1=> .ite fun hC=> .opt fun fs h2=> .opt fun v h3=> .ite fun hp=>by
  obtain⟨hi,rfl⟩:=r.ik hx;have h1:=MO.instI h1;have h2:=MO.Mb h2;obtain⟨hl,es,ep,ho,R,I⟩:=S.inst hi h1 h2;have ES:=hc C hC w;simp only [Mj,Bool.and_eq_true] at ES;obtain⟨⟨q1,q2⟩,q3⟩:=ES;obtain⟨aa,q4,q5⟩:=any_some q3;obtain⟨u,hu,ru⟩:=R.get h3;exact aj (get_value S.now.X I (plainGet_of q1).1 (findObj_own q2 q4 q5 ((lookIn_dict ..).trans hu)) (ru.handed hp) ⟨ρ,S.grow (fun O O e=>e),.grow (fun O O e=>e) rfl rfl,ru⟩)
theorem Mm(hc:∀C,C∈cs->fq C k)(S:OK prog w g s ρ m)(r:a_ ρ m.n s.heap x a)(r2:a_ ρ m.n s.heap y v):Comes (fun O O O O O=>True) s ρ m prog w g A (p8 cs k x y m) (setAttr a k v):=
 .opt fun i hx=> .opt fun C h1=> .ite fun hC=> .opt fun fs h2=> .ite fun hz=>by
  obtain⟨hi,rfl⟩:=r.ik hx;have h1:=MO.instI h1;have h2:=MO.Mb h2;obtain⟨hl,es,n,ho,R,I⟩:=S.inst hi h1 h2;have ES:=hc C hC.1 w;simp only [setB,Bool.and_eq_true,beq_iff_eq] at ES;obtain⟨⟨⟨q1,q2⟩,q3⟩,q4⟩:=ES;refine aj (set_plain S.now.X I q1 (osa_open (s:= {s with toks:=s.toks+1}) S.now.X I q2 q3 fun b=> ?_));obtain⟨cd,Ko,Kn⟩:=any_some q4;have D:s.heap.get? (ρ (i+1))=some (dictOf es n):=ho;have PJ:(lookIn k (dictOf es n)).isSome=true:=by
   rw [lookIn_dict];unfold getL;split
   ·rfl
   ·rw [R.noRef];rfl
  have R':=R.put (k:=k) (t:=s.toks+1) r2;have e':=putName_dict k (PyData.keyHash w.params k) (.str k (s.toks+1)) v es n;have D':(s.heap.update (ρ (i+1)) (Obj.putName k (PyData.keyHash w.params k) (.str k (s.toks+1)) v)).get? (ρ (i+1))=some (dictOf (putL k (PyData.keyHash w.params k) (.str k (s.toks+1)) v es) (putN k es n)):=by
   rw [<- e'];exact Heap.get?_update_self _ D (by rw [e'];rfl)
  have Us:=I.at_;refine aN (cP (aN (aN (wpAny_loadPart Us (aN (looks_clsIn S.now.X Ko _ _ _ _ (fun O O e=>e) ?_))))));rw [Kn];refine cP (a:=some (ρ (i+1))) (aN (cP (aN ?_)));refine aN (aN (wpAny_askSetting (cP (aN (wpAny_mkText (aN (wpAny_loadPart D ?_)))))));dsimp only;have c:(!es.toArray.any (·.key.isStr k)&&es.toArray.any (·.refKey))=false:=by
   have hr:es.toArray.any (fun x:DictEntry=>x.refKey)=false:=by rw [List.any_toArray];exact R.noRef
   rw [hr,Bool.and_false]
  rw [aRefKeyMayBeTheName_at,c];refine wpAny_updatePart D ?_;have hz':(putL k (PyData.keyHash w.params k) (.str k (s.toks+1)) v es).length<=1000:=by rw [R'.length];have:=vc k y fs;exact aal hz this
  refine aN (wpAny_lookBehind D' (pastItsLine_dict (by rw [fX,sizeLine_eq];exact aam hz')) ?_);have hs:Heap.SameBut (ρ (i+1)) s.heap (s.heap.update (ρ (i+1)) (Obj.putName k (PyData.keyHash w.params k) (.str k (s.toks+1)) v)):=Heap.SameBut.update ..;have hk:∀a o,a≠ρ (i+1)->s.heap.get? a=some o->(s.heap.update (ρ (i+1)) (Obj.putName k (PyData.keyHash w.params k) (.str k (s.toks+1)) v)).get? a=some o:=fun a o ha e=>(hs.2 a ha).trans e;exact cP ⟨ρ,S.put hl hk D' fun M=>⟨_,_,rfl,R'.mono M⟩,.put S hl hk ⟨_,D'⟩ rfl rfl,trivial⟩
end
section
variable {n:Nat}{sg:Sg}
theorem aq{x:Expr}(h:cD n sg x c)(hc:∀C,C∈cs->fK C k)
  (he:∀env,eval (.Attribute x k p) env=(do
   let o <- eval x env
   standAt p.atName
   let r <- holding [o] (getAttr o k true)
   letTemporaryGo x o r
   pure r)):cD n sg (.Attribute x k p) (oG c (vd cs k)):=by
 intro prog w A g env fr s ρ m hA S F;exact .bind fun y m1 e1=> .of fun b m' e=>yY ((h _ _ A _ _ _ _ _ _ hA S F).step e1 fun a s1 ρ1 S1 V1 r1=>(Mk hc S1 r1).step e fun v s2 ρ2 S2 V2 r2=>⟨ρ2,S2,V1.comp V2,r2⟩) (he env)
end
inductive eH where
 |next|brk|cont|ret (v:MV)
noncomputable abbrev SM:=av->MH->Option (eH×av×MH)
inductive rP (ρ:Nat->Addr) (n:Nat) (h:Heap):eH->Flow->Prop where
 |next:rP ρ n h .next .next
 |brk:rP ρ n h .brk .brk
 |cont:rP ρ n h .cont .cont
 |ret {x:MV} {v:Value}:a_ ρ n h x v->rP ρ n h (.ret x) (.ret v)
theorem rP.Mn{f:Flow}(r:rP ρ n h .next f):f= .next:=by cases r;rfl
abbrev CT(prog:Program)(w:World)(g:Heap)(sg:Sg)(env:Env)(s:Shared)(ρ:Nat->Addr)(m:MH)(f:eH)(fr:av)(m':MH)(fl:Flow)(s':Shared):Prop:=
 ∃ρ',OK prog w g s' ρ' m'/\dh (Own env) s ρ m s' ρ' m'/\rP ρ' m'.n s'.heap f fl/\dw sg env fr g s' ρ' m'.n
def eY(prog:Program)(w:World)(g:Heap)(A:Around)(sg:Sg)(env:Env)(t:Sem Flow)(r:Option (eH×av×MH))(s:Shared)(ρ:Nat->Addr)(m:MH):Prop:=match r with
 |none=>True
 |some (f,fr,m')=>ay s cX A (model prog w) (CT prog w g sg env s ρ m f fr m') t
def fY(n:Nat)(sg:Sg)(st:Stmt)(c:SM):Prop:=
 ∀prog w A g env fr s ρ m,dj n A->OK prog w g s ρ m->dw sg env fr g s ρ m.n->eY prog w g A sg env (exec st env) (c fr m) s ρ m
def qX(n:Nat)(sg:Sg)(ss:List Stmt)(c:SM):Prop:=
 ∀prog w A g env fr s ρ m,dj n A->OK prog w g s ρ m->dw sg env fr g s ρ m.n->eY prog w g A sg env (execs ss env) (c fr m) s ρ m
namespace SM
noncomputable def ret(f:eH):SM:=fun fr m=>some (f,fr,m)
noncomputable def fail:SM:=fun O O=>none
noncomputable def seq(c d:SM):SM:=fun fr m=>match c fr m with
 |some (.next,fE,m')=>d fE m'
 |r=>r
noncomputable def use(c:av->MM MV)(k:MV->SM):SM:=fun fr m=>match c fr m with
 |some (v,m')=>k v fr m'
 |none=>none
noncomputable def test(c:av->MM Bool)(a b:SM):SM:=fun fr m=>match c fr m with
 |some (v,m')=>bif v then a fr m' else b fr m'
 |none=>none
noncomputable def put(i:Nat)(v:MV):SM:=fun fr m=>some (.next,fr.set i (some v),m)
noncomputable def act{α:Type}(c:MM α):SM:=fun fr m=>match c m with
 |some (_,m')=>some (.next,fr,m')
 |none=>none
end SM
section
variable {prog:Program}{w:World}{g:Heap}{A:Around}{sg:Sg}{env:Env}{s:Shared}{ρ:Nat->Addr}{m m1 m':MH}{t:Sem Flow}{f:eH}{fr fE:av}{r:Option (eH×av×MH)}
theorem eY.at(h:eY prog w g A sg env t r s ρ m)(e:r=some (f,fE,m')):ay s cX A (model prog w) (CT prog w g sg env s ρ m f fE m') t:=by rw [e] at h;exact h
theorem eY.of(k:∀f fE m',r=some (f,fE,m')->ay s cX A (model prog w) (CT prog w g sg env s ρ m f fE m') t):eY prog w g A sg env t r s ρ m:=by
 cases r with
 |none=>exact True.intro
 |some x=>exact k x.1 x.2.1 x.2.2 rfl
theorem eY.use{k:MV->SM}(h:∀v m2,c fr m1=some (v,m2)->eY prog w g A sg env t (k v fr m2) s ρ m):eY prog w g A sg env t (SM.use c k fr m1) s ρ m:=by
 unfold SM.use;cases q:c fr m1 with
 |none=>exact True.intro
 |some x=>exact h x.1 x.2 q
theorem eY.act{c:MM α}(h:∀v m2,c m1=some (v,m2)->eY prog w g A sg env t (some (.next,fr,m2)) s ρ m):eY prog w g A sg env t (SM.act c fr m1) s ρ m:=by
 unfold SM.act;cases q:c m1 with
 |none=>exact True.intro
 |some x=>exact h x.1 x.2 q
theorem eY.test{c:av->MM Bool}{a b:SM}(h:∀v m2,c fr m1=some (v,m2)->eY prog w g A sg env t (bif v then a fr m2 else b fr m2) s ρ m):eY prog w g A sg env t (SM.test c a b fr m1) s ρ m:=by
 unfold SM.test;cases q:c fr m1 with
 |none=>exact True.intro
 |some x=>exact h x.1 x.2 q
theorem eY.opt{γ:Type}{o:Option γ}{k:γ->Option (eH×av×MH)}(h:∀x,o=some x->eY prog w g A sg env t (k x) s ρ m):eY prog w g A sg env t (o.bind k) s ρ m:=by
 cases o with
 |none=>exact True.intro
 |some x=>exact h x rfl
theorem eY.ite{c:Prop}[Decidable c](h:c->eY prog w g A sg env t r s ρ m):eY prog w g A sg env t (if c then r else none) s ρ m:=by
 by_cases q:c
 ·rw [if_pos q];exact h q
 ·rw [if_neg q];exact True.intro
theorem eY.step{K:Flow->Shared->Prop}(h:eY prog w g A sg env t r s ρ m)(e:r=some (f,fE,m'))
  (k:∀fl s' ρ',OK prog w g s' ρ' m'->dh (Own env) s ρ m s' ρ' m'->rP ρ' m'.n s'.heap f fl->dw sg env fE g s' ρ' m'.n->K fl s'):ay s cX A (model prog w) K t:=
 au (h.at e) (fun fl s' q=>q.elim fun ρ' q=>k fl s' ρ' q.1 q.2.1 q.2.2.1 q.2.2.2) fun O O q=>q
end
theorem slot_set(fr:av)(i j:Nat)(v:MV):slot (fr.set i (some v)) j=if j=i then(if i<fr.length then some v else none) else slot fr j:=by
 unfold slot
 by_cases h:j=i
 ·subst h;rw [if_pos rfl,List.getElem?_set_self']
  by_cases hl:j<fr.length
  ·rw [if_pos hl,iq hl];rfl
  ·rw [if_neg hl,List.getElem?_eq_none (Nat.le_of_not_lt hl)];rfl
 ·rw [if_neg h,List.getElem?_set_ne (Ne.symm h)]
theorem zc:∀ {l:List α},l.Nodup->∀ {i j:Nat} {x:α},l[i]? =some x->l[j]? =some x->i=j:=
 fun nd O O O h h'=>(List.getElem?_inj (List.getElem?_eq_some_iff.mp h).1 nd).mp (h.trans h'.symm)
section
variable {prog:Program}{w:World}{g:Heap}{A:Around}{s s':Shared}{ρ ρ':Nat->Addr}{m m':MH}{sg:Sg}{env:Env}{fr:av}
theorem l_.notDict{es:Array DictEntry}(h:o.data= .dict es n):¬l_ o:=by
 rintro(⟨vs,n,rfl⟩|⟨a,b,t,u,v,rfl⟩) <;> cases h
theorem l_.Mo{v:Option Value}(h:o.data= .cell v):¬l_ o:=by
 rintro(⟨vs,n,rfl⟩|⟨a,b,t,u,v,rfl⟩) <;> cases h
theorem ET{a b:Addr}{mp:Str->Option Value}{v:Option Value}(x:h.Ns a mp)(y:h.IsCell b v):a≠b:=by
 rintro rfl;obtain⟨o,es,ep,e,d,_⟩:=x;obtain⟨o',e',d'⟩:=y;rw [e] at e';cases e';rw [d] at d';cases d'
theorem nv(i:Nat){x:Str}{K:Unit->Shared->Prop}{E:Value->Shared->Prop}(S:OK prog w g s ρ m)(F:dw sg env fr g s ρ m.n)(hk:sg.ks[i]? =some x)(r:a_ ρ m.n s.heap y v)
  (k:∀s',OK prog w g s' ρ m->dh (Own env) s ρ m s' ρ m->(sg.nm.lookup x=some .local->dh (fun a=>a=env.locals) s ρ m s' ρ m)->dw sg env (fr.set i (some y)) g s' ρ m.n->K () s'):wpAny (model prog w) A (storeName env x v) K E s:=by
 have hm:=jC hk;obtain⟨mp,hn,hr⟩:=F.loc;have kN:∀z,env.kindOf z=sg.nm.lookup z:=fun z=>by unfold Env.kindOf;rw [F.ev.nm]
 have step:∀(a:Addr) (h':Heap) (t:Nat),Own env a->(∃o,h'.get? a=some o)->(∀o,s.heap.get? a=some o->¬l_ o)->Heap.SameBut a s.heap h'->
   OK prog w g {s with heap:=h',toks:=t} ρ m/\dh (fun b=>b=a) s ρ m {s with heap:=h',toks:=t} ρ m/\lu ρ m.n s.heap ρ m.n h':=fun a h' t ho hex hf hs=>by
  have H:Hid g s ρ m (fun b=>b=a):=⟨fun b hb=>hb▸(F.own a ho).1,fun b hb=>hb▸(F.own a ho).2.1,fun b o hb e=>hf o (hb▸e)⟩;have kk:∀b o,¬b=a->s.heap.get? b=some o->h'.get? b=some o:=fun b o hb e=>(hs.2 b hb).trans e;exact⟨S.kO (s':= {s with heap:=h',toks:=t}) H kk,.kO H kk (fun O q=>q) (fun b hb=>by rw [hb];exact hex) rfl rfl,⟨fun O O=>rfl,dU _,fun b o e f=>kk b o (fun q=>H.nO b o q e f) e⟩⟩
 have weak:∀ {a:Addr} {s':Shared},Own env a->dh (fun b=>b=a) s ρ m s' ρ m->dh (Own env) s ρ m s' ρ m:=fun ho V=>⟨V.ix,V.n,V.new,V.alive,V.nO,fun b o e h1 h2=>V.keep b o e h1 (fun q=>h2 (q▸ho)),V.os,V.gens⟩;rcases F.ev.vars x hm with hl|hl
 ·refine wpAny_storeName_local ((kN x).trans hl) hn (fun h' wd hs=> ?_) (by rw [F.ev.kind];rfl);have Ut:∀o,s.heap.get? env.locals=some o->¬l_ o:=fun o e=>by
   obtain⟨o',es,ep,e',d,_⟩:=hn;rw [e] at e';cases e';exact l_.notDict d
  obtain⟨S',V',M'⟩:=step env.locals h' (s.toks+1) (.inl rfl) (wd.imp fun O h=>h.elim fun O h=>h.elim fun O h=>h.1) Ut hs;refine k _ S' (weak (.inl rfl) V') (fun O=>V') ⟨F.ev,⟨_,wd,fun j z hj hz=> ?_⟩,fun j z hj hz=> ?_,fun a ha=> ?_,F.ap⟩
  ·rw [slot_set]
   by_cases zd:j=i
   ·subst zd;rw [hk] at hj;cases hj;rw [if_pos rfl,if_pos rfl]
    split
    ·exact⟨v,rfl,r.mono M'⟩
    ·trivial
   ·have hzx:z≠x:=by rintro rfl;exact zd (zc F.ev.nd hj hk)
    rw [if_neg zd,if_neg hzx];exact(hr j z hj hz).mono M'
  ·have zd:j≠i:=by
    rintro rfl;rw [hk] at hj;cases hj;rw [hl] at hz;cases hz
   obtain⟨c,u,h1,h2,h3⟩:=F.y9 j z hj hz;rw [slot_set,if_neg zd];exact⟨c,u,h1,h2.sameBut hs (ET hn h2).symm,h3.mono M'⟩
  ·obtain⟨h1,h2,h3⟩:=F.own a ha;exact⟨h1,h2,h3.elim fun O e=>V'.alive _ _ e⟩
 ·obtain⟨c,u,h1,h2,h3⟩:=F.y9 i x hk hl;refine wpAny_storeName_cell F.ev.kind ((kN x).trans hl) h1 h2 fun h' HB hs=> ?_;have Ut:∀o,s.heap.get? c=some o->¬l_ o:=fun o e=>by
   obtain⟨o',e',d⟩:=h2;rw [e] at e';cases e';exact l_.Mo d
  obtain⟨S',V',M'⟩:=step c h' s.toks (.inr ⟨x,h1⟩) (HB.imp fun O h=>h.1) Ut hs;refine k _ S' (weak (.inr ⟨x,h1⟩) V') (fun q=>by rw [hl] at q;cases q) ⟨F.ev,⟨mp,hn.sameBut hs (ET hn h2),fun j z hj hz=> ?_⟩,fun j z hj hz=> ?_,fun a ha=> ?_,F.ap⟩
  ·have zd:j≠i:=by
    rintro rfl;rw [hk] at hj;cases hj;rw [hl] at hz;cases hz
   rw [slot_set,if_neg zd];exact(hr j z hj hz).mono M'
  ·rw [slot_set]
   by_cases zd:j=i
   ·subst zd;rw [hk] at hj;cases hj;rw [if_pos rfl];refine⟨c,some v,h1,HB, ?_⟩
    split
    ·exact⟨v,rfl,r.mono M'⟩
    ·trivial
   ·obtain⟨c',u',q1,q2,q3⟩:=F.y9 j z hj hz;rw [if_neg zd];have i6:c'≠c:=by
     rintro rfl;have:=F.ap _ _ _ q1 h1;subst this;exact zd (zc F.ev.nd hj hk)
    exact⟨c',u',q1,q2.sameBut hs i6,q3.mono M'⟩
  ·obtain⟨h1,h2,h3⟩:=F.own a ha;exact⟨h1,h2,h3.elim fun O e=>V'.alive _ _ e⟩
end
section
variable {n:Nat}{sg:Sg}
theorem cq:fY n sg st SM.fail:=fun O O O O O O O O O O O O=>True.intro
theorem bu:qX n sg [] (SM.ret .next):=fun prog w A g env fr s ρ m hA S F=>aj (wpAny_execs_nil ⟨ρ,S,.refl,.next,F⟩)
theorem ai{c d:SM}(h:fY n sg st c)(hs:qX n sg ss d):qX n sg (st::ss) (SM.seq c d):=by
 intro prog w A g env fr s ρ m hA S F;unfold SM.seq;cases e:c fr m with
 |none=>exact True.intro
 |some x=>
  obtain⟨f,et,m1⟩:=x;cases f with
  |next=>
   refine .of fun f fE m' e2=>cL ((h _ _ A _ _ _ _ _ _ hA S F).step e fun fl s1 ρ1 S1 V1 r1 F1=> ?_);obtain rfl:=r1.Mn;exact(hs _ _ A _ _ _ _ _ _ hA S1 F1).step e2 fun fl s2 ρ2 S2 V2 r2 F2=>⟨ρ2,S2,V1.comp V2,r2,F2⟩
  |brk=>exact cL ((h _ _ A _ _ _ _ _ _ hA S F).step e fun fl s1 ρ1 S1 V1 r1 F1=>by cases r1;exact⟨ρ1,S1,V1,.brk,F1⟩)
  |cont=>exact cL ((h _ _ A _ _ _ _ _ _ hA S F).step e fun fl s1 ρ1 S1 V1 r1 F1=>by cases r1;exact⟨ρ1,S1,V1,.cont,F1⟩)
  |ret v=>exact cL ((h _ _ A _ _ _ _ _ _ hA S F).step e fun fl s1 ρ1 S1 V1 r1 F1=>by cases r1 with|ret r=>exact⟨ρ1,S1,V1,.ret r,F1⟩)
theorem ar{c:SM}(h:fY n sg st c):qX n sg [st] c:=by
 intro prog w A g env fr s ρ m hA S F;refine .of fun f fE m' e=>cL (au ((h _ _ A _ _ _ _ _ _ hA S F).at e) (fun fl s1 q=> ?_) fun O O f=>f);cases fl with
 |next=>exact aj (wpAny_execs_nil q)
 |_=>exact q
theorem cw(h:fY n sg st SM.fail):qX n sg (st::ss) SM.fail:=fun O O O O O O O O O O O O=>True.intro
noncomputable def lR(e:Expr):Bool:=Nat.blt e.ctorIdx 8||Nat.blt 10 e.ctorIdx
theorem ky{env:Env}{t:Option Expr}(h:lR e=true):swapsWith e t n env=pure false:=by
 cases e <;> first|rfl|exact Bool.noConfusion h
theorem bh(i:Nat){x:Str}(hk:sg.ks[i]? =some x)(h:cD n sg e c)(hc:lR e=true):fY n sg (.Assign [.Name x p] e p') (SM.use c (SM.put i)):=
 fun prog w A g env fr s ρ m hA S F=> .use fun v m1 e1=>lC ((h _ _ A _ _ _ _ _ _ hA S F).step e1 fun a s1 ρ1 S1 V1 r1=>aj<|nv i S1 (F.dQ V1) hk r1 fun s2 S2 V2 O F2=>⟨ρ1,S2,V1.weak.comp V2,.next,F2⟩) (ky hc)
theorem aT(h:cD n sg e c):fY n sg (.Return (some e) p) (SM.use c fun v=>SM.ret (.ret v)):=
 fun prog w A g env fr s ρ m hA S F=> .use fun v m1 e1=>p6 ((h _ _ A _ _ _ _ _ _ hA S F).step e1 fun a s1 ρ1 S1 V1 r1=>⟨ρ1,S1,V1.weak,.ret r1,F.dQ V1⟩)
theorem bp(h:cD n sg e c)(hc:lR e=true):fY n sg (.Expr e p) (SM.use c fun O=>SM.ret .next):=
 fun prog w A g env fr s ρ m hA S F=> .use fun v m1 e1=>BK ((h _ _ A _ _ _ _ _ _ hA S F).step e1 fun a s1 ρ1 S1 V1 r1=>⟨ρ1,S1,V1.weak,.next,F.dQ V1⟩) (by unfold interactive;rw [F.ev.kind];rfl) (ky hc)
theorem bN{t:Expr}{a b:List Stmt}{ct:av->MM Bool}{ca cb:SM}(ht:qW n sg t ct)(ha:qX n sg a ca)(hb:qX n sg b cb):fY n sg (.If t a b p) (SM.test ct ca cb):=by
 intro prog w A g env fr s ρ m hA S F;refine .test fun v m1 e1=> ?_;cases v with
 |true=>exact .of fun f fE m' e=>CK ((ht _ _ A _ _ _ _ _ _ hA S F).step e1 fun c s1 ρ1 S1 V1 r1=>by cases r1;exact(ha _ _ A _ _ _ _ _ _ hA S1 (F.dQ V1)).step e fun fl s2 ρ2 S2 V2 r2 F2=>⟨ρ2,S2,V1.weak.comp V2,r2,F2⟩)
 |false=>exact .of fun f fE m' e=>CK ((ht _ _ A _ _ _ _ _ _ hA S F).step e1 fun c s1 ρ1 S1 V1 r1=>by cases r1;exact(hb _ _ A _ _ _ _ _ _ hA S1 (F.dQ V1)).step e fun fl s2 ρ2 S2 V2 r2 F2=>⟨ρ2,S2,V1.weak.comp V2,r2,F2⟩)
theorem bk{o:Expr}{d:av->MM MV}(h:cD n sg e c)(ho:cD n sg o d)(hc:∀C,C∈cs->fq C k)(hn:lR e=true):
  fY n sg (.Assign [.Attribute o k p] e p') (SM.use c fun v=>SM.use d fun x=>SM.act (p8 cs k x v)):=
 fun prog w A g env fr s ρ m hA S F=> .use fun v m1 e1=> .use fun x m2 e2=> .act fun u m3 e3=>lq ((h _ _ A _ _ _ _ _ _ hA S F).step e1 fun a s1 ρ1 S1 V1 r1=>(ho _ _ A _ _ _ _ _ _ hA S1 (F.dQ V1)).step e2 fun b s2 ρ2 S2 V2 r2=>
  (Mm hc S2 r2 (r1.mono V2.mono)).step e3 fun O s3 ρ3 S3 V3 O=>⟨ρ3,S3,((V1.comp V2).comp V3).weak,.next,((F.dQ V1).dQ V2).dQ V3⟩) (ky hn)
end
end
section
def TT(loc:Bool)(env:Env):Addr->Prop:=fun a=>bif loc then a=env.locals else Own env a
def rQ(loc:Bool)(sg:Sg)(aU:Expr)(tg:MV->SM):Prop:=
 ∀prog w A g env fr s ρ m y v,A.handled=none->OK prog w g s ρ m->dw sg env fr g s ρ m.n->a_ ρ m.n s.heap y v->∀f fE m',tg y fr m=some (f,fE,m')->∀(K:Unit->Shared->Prop) (E:Value->Shared->Prop),
  (∀s' ρ',OK prog w g s' ρ' m'->dh (TT loc env) s ρ m s' ρ' m'->dw sg env fE g s' ρ' m'.n->f= .next->K () s')->wpAny (model prog w) A (assign aU env v) K E s
section
variable {sg:Sg}{loc:Bool}
theorem BQ{prog:Program}{w:World}{g:Heap}{A:Around}{s:Shared}{ρ:Nat->Addr}{m:MH}{env:Env}{fr:av}{i:Nat}{x:Str}{y:MV}{v:Value}{K:Unit->Shared->Prop}{E:Value->Shared->Prop}
  (hk:sg.ks[i]? =some x)(hl:loc=true->sg.nm.lookup x=some .local)(S:OK prog w g s ρ m)(F:dw sg env fr g s ρ m.n)(r:a_ ρ m.n s.heap y v)
  (k:∀s',OK prog w g s' ρ m->dh (TT loc env) s ρ m s' ρ m->dw sg env (fr.set i (some y)) g s' ρ m.n->K () s'):wpAny (model prog w) A (storeName env x v) K E s:=
 nv i S F hk r fun s' S' V' L' F'=>k s' S' (by
  cases loc with
  |true=>exact L' (hl rfl)
  |false=>exact V') F'
theorem bB(i:Nat){x:Str}{p:Pos}(hk:sg.ks[i]? =some x)(hl:loc=true->sg.nm.lookup x=some .local):rQ loc sg (.Name x p) (SM.put i):=by
 intro prog w A g env fr s ρ m y v hA S F r f fE m' e K E k;cases e;exact wpAny_assign_Name (BQ hk hl S F r fun s' S' V' F'=>k _ _ S' V' F' rfl)
inductive ma (loc:Bool) (sg:Sg):List Expr->List Nat->Prop where
 |nil:ma loc sg [] []
 |cons {i:Nat} {x:Str} {p:Pos} {es:List Expr} {is:List Nat} (hk:sg.ks[i]? =some x) (hl:loc=true->sg.nm.lookup x=some .local) (h:ma loc sg es is):ma loc sg (.Name x p::es) (i::is)
noncomputable def iS(fr:av):List Nat->List MV->av
 |i::is,x::xs=>iS (fr.set i (some x)) is xs
 |_,_=>fr
noncomputable def SM.unpack(is:List Nat)(x:MV):SM:=fun fr m=>x.BO.bind fun xs=>if xs.length=is.length then some (.next,iS fr is xs,m) else none
theorem kz{α:Type}{c:Prop}[Decidable c]{a b:α}(h:(if c then some a else none)=some b):c/\a=b:=by
 by_cases q:c
 ·rw [if_pos q] at h;exact⟨q,d9 h⟩
 ·rw [if_neg q] at h;exact bZ h
theorem ma.each{es:List Expr}{is:List Nat}(h:ma loc sg es is)(env:Env):(assignEach es env).length=is.length/\(assignEach es env).findIdx? (·.1)=none/\(assignEach es env).map (·.2)=es.map fun e=>assign e env:=by
 induction h with
 |nil=>exact⟨rfl,rfl,rfl⟩
 | @cons i x p es is hk hl h ih=>
  have e:assignEach (.Name x p::es) env=(false,assign (.Name x p) env)::assignEach es env:=rfl;rw [e];exact⟨by simp [ih.1],by simp [List.findIdx?_cons,ih.2.1],by simp [ih.2.2]⟩
theorem EU{prog:Program}{w:World}{g:Heap}{A:Around}{env:Env}{ρ:Nat->Addr}{m:MH}{es:List Expr}{is:List Nat}(h:ma loc sg es is):∀ {s:Shared} {fr:av} {ys:List MV} {vs:List Value} {K:Unit->Shared->Prop} {E:Value->Shared->Prop},
  OK prog w g s ρ m->dw sg env fr g s ρ m.n->bI ρ m.n s.heap ys vs->ys.length=is.length->(∀s',OK prog w g s' ρ m->dh (TT loc env) s ρ m s' ρ m->dw sg env (iS fr is ys) g s' ρ m.n->K () s')->
  wpAny (model prog w) A (assignInOrder (es.map fun e=>assign e env) vs) K E s:=by
 induction h with
 |nil=>
  intro s fr ys vs K E S F r hl k;exact assignInOrder_nil (k s S .refl F)
 | @cons i x p es is hk hl h ih=>
  intro s fr ys vs K E S F r hlen k;cases r with
  |nil=>simp at hlen
  | @cons y v ys vs r rs=>
   refine assignInOrder_cons (wpAny_assign_Name (BQ hk hl S F r fun s1 S1 V1 F1=> ?_));exact ih S1 F1 (rs.mono V1.mono) (by simpa using hlen) fun s2 S2 V2 F2=>k s2 S2 (V1.comp V2) F2
theorem fv{es:List Expr}{is:List Nat}{kk:Nat}{p:Pos}(h:ma loc sg es is):rQ loc sg (.Tuple es kk p) (SM.unpack is):=by
 intro prog w A g env fr s ρ m y v hA S F r f fE m' e K E k;obtain⟨xs,hx,e⟩:=bj e;obtain⟨hl,e⟩:=kz e;obtain⟨vs,a,ep,ha,rs,rfl⟩:=r.tupI hx;cases e;obtain⟨h1,h2,h3⟩:=h.each env;refine wpAny_assign_Tuple hA ⟨_,ha,rfl,_,rfl⟩ (by rw [h1,fX, <- rs.length,hl]) h2 fun h' he=> ?_;have hs:Sub s.heap h':=fun b o e=>he b o (fun q=>by rw [q,cA] at e;cases e) e;have V:dh (TT loc env) s ρ m {s with heap:=h'} ρ m:= .grow hs rfl rfl;rw [h3,List.toList_toArray];have V0:dh fo s ρ m {s with heap:=h'} ρ m:= .grow hs rfl rfl;exact EU h (S.grow hs) (F.dQ V0) (rs.mono V.mono) hl fun s2 S2 V2 F2=>k s2 ρ S2 (V.comp V2) F2 rfl
end
structure Src where
 len:MH->Option Nat
 item:Nat->MH->Option MV
noncomputable def srcOf(x:MV):Src where
 len:=fun m=>MV.casesOn (motive_1:=fun O=>Option Nat) x none (fun O=>none) (fun O=>none) (fun s=>if s.cps.all (· <128) then some s.cps.size else none) (fun b=>some b.length) (fun O=>none) (fun a b=>if a=0/\0<=b/\b<2 ^ 60 then some b.toNat else none) (fun i=>(m.ob i).gR.map List.length) (fun O=>none)
 item:=fun k m=>MV.casesOn (motive_1:=fun O=>Option MV) x none (fun O=>none) (fun O=>none) (fun s=>s.cps[k]?.map fun c=>MV.str ⟨#[c]⟩) (fun b=>b[k]?.map fun c=>MV.int (c.toNat:Int)) (fun O=>none) (fun a b=>some (MV.int (k:Int))) (fun i=>(m.ob i).gR.bind fun xs=>xs[k]?) (fun O=>none)
section
variable {m:MH}{i k n:Nat}{xs:List MV}
theorem ze(h:m.ob i= .list xs):(srcOf (.obj i)).len m=some xs.length:=by show(m.ob i).gR.map _=_;rw [h];rfl
theorem sY(h:m.ob i= .list xs):(srcOf (.obj i)).item k m=xs[k]? :=by show(m.ob i).gR.bind _=_;rw [h];rfl
end
structure Kept (X:Addr->Prop) (s s':Shared):Prop where
 h:∀a o,¬X a->s.heap.get? a=some o->s'.heap.get? a=some o
 os:s'.os=s.os
 gens:s'.gens=s.gens
structure kQ (prog:Program) (w:World) (g:Heap) (A:Around) (aU:Expr) (src:Src) (n:Nat) (it:Value) (X:Addr->Prop) (St:Nat->Heap->Prop) (Md:Nat->Heap->Value->Prop) (ρ0:Nat->Addr) (n0:Nat):Prop where
 ve:∀k h h',St k h->(∀a o,X a->h.get? a=some o->h'.get? a=some o)->St k h'
 ex:∀k h,St k h->∀a,X a->∃o,h.get? a=some o/\¬l_ o
 PK:∀k h u,Md k h u->∀a,X a->∃o,h.get? a=some o/\¬l_ o
 next:∀s ρ m k v (K:Option Value->Shared->Prop),k<n->OK prog w g s ρ m->(∀i,i<n0->ρ i=ρ0 i)->n0<=m.n->src.len m=some n->src.item k m=some v->St k s.heap->Hid g s ρ m X->
  (∀u s',Kept X s s'->Md (k+1) s'.heap u->a_ ρ m.n s'.heap v u->K (some u) s')->ay s cX A (model prog w) K (pyNext it)
 done:∀s ρ m (K:Option Value->Shared->Prop),OK prog w g s ρ m->(∀i,i<n0->ρ i=ρ0 i)->n0<=m.n->src.len m=some n->St n s.heap->Hid g s ρ m X->
  (∀s',Kept X s s'->K none s')->ay s cX A (model prog w) K (pyNext it)
 self:∀k s (K:Value->Shared->Prop),St k s.heap->K it s->ay s cX A (model prog w) K (pyIter it)
 quiet:∀k s u (K:Unit->Shared->Prop),Md k s.heap u->(∀s',Kept X s s'->St k s'.heap->K () s')->ay s cX A (model prog w) K (letOwnedTupleGo aU it u)
def Given(prog:Program)(w:World)(g:Heap)(A:Around)(aU:Expr)(src:Src)(n:Nat)(s:Shared)(ρ:Nat->Addr)(m:MH)(K:Value->Shared->Prop):Prop:=
 ∀it s1 X St Md,OK prog w g s1 ρ m->dh fo s ρ m s1 ρ m->(∀a,X a->s.heap.get? a=none/\∀i,i<m.n->ρ i≠a)->St 0 s1.heap->kQ prog w g A aU src n it X St Md ρ m.n->K it s1
def CU(prog:Program)(w:World)(g:Heap)(n:Nat)(sg:Sg)(aU iter:Expr)(ci:av->MM Src):Prop:=
 ∀A env fr s ρ m,dj n A->OK prog w g s ρ m->dw sg env fr g s ρ m.n->∀src m',ci fr m=some (src,m')->∀k,src.len m'=some k->∀(K:Value->Shared->Prop),
  (∀it s1 ρ1 X St Md,OK prog w g s1 ρ1 m'->dh fo s ρ m s1 ρ1 m'->(∀a,X a->s.heap.get? a=none/\∀i,i<m'.n->ρ1 i≠a)->St 0 s1.heap->kQ prog w g A aU src k it X St Md ρ1 m'.n->K it s1)->
  ay s cX A (model prog w) (fun x s1=>ay s1 cX A (model prog w) K (pyIter x)) (eval iter env)
def EV(n:Nat)(sg:Sg)(aU iter:Expr)(ci:av->MM Src):Prop:=∀prog w g,CU prog w g n sg aU iter ci
section
variable {prog:Program}{w:World}{A:Around}{s:Shared}{E:Value->Shared->Prop}
theorem BR{I:Addr}{o:Obj}{n:String}{aU:Expr}{v:Value}{Q:Unit->Shared->Prop}(ho:s.heap.get? I=some o)(hc:o.cls= .type n)(hn: ["enumerate","zip","dict_itemiterator","dict_reverseitemiterator","odict_iterator","itertools.zip_longest","itertools.pairwise"].contains n=false)(h:Q () s):
  wpAny (model prog w) A (letOwnedTupleGo aU (.ref I) v) Q E s:=by
 have key:wpAny (model prog w) A (do
   let(.ref r,.ref a):=(Value.ref I,v)|return
   let o <- load r
   match o.cls,o.data with
   | .type n,.fields vs=>
    if ["enumerate","zip","dict_itemiterator","dict_reverseitemiterator","odict_iterator","itertools.zip_longest","itertools.pairwise"].contains n&&vs[0]? ==some (rawInt a) then
     rule "for.unpacks-the-owned-tuple"
     updateField r 0 .none
   |_,_=>pure ():Sem Unit) Q E s:=by
  cases v with
  |ref a=>
   refine aN (wpAny_load ho ?_);obtain⟨oc,od,oda,we⟩:=o;dsimp only at hc;subst hc;cases oda <;> first|exact wpAny_pure h|(dsimp only;rw [hn,Bool.false_and,if_neg (of_decide_eq_true rfl)];exact wpAny_pure h)
  |_=>exact cP h
 cases aU <;> first|exact key|exact cP h
theorem iu{o:Obj}{n:String}(hc:o.cls= .type n)(h1:(n=="tuple")=false)(h2:(n=="range")=false):¬l_ o:=fun f=>by
 rcases f.cls with e|e <;> rw [hc] at e <;> cases e
 ·cases h1
 ·cases h2
theorem kQ.sZ{g:Heap}{aU:Expr}{src:Src}{n n0:Nat}{I:Addr}{T:String}{d:Nat->Obj->Prop}{ρ0:Nat->Addr}(hT:∀k o,d k o->o.cls= .type T)(h1:(T=="tuple")=false)(h2:(T=="range")=false)
  (h3: ["enumerate","zip","dict_itemiterator","dict_reverseitemiterator","odict_iterator","itertools.zip_longest","itertools.pairwise"].contains T=false)
  (hW:∀(s:Shared) ρ m,OK prog w g s ρ m->(∀i,i<n0->ρ i=ρ0 i)->n0<=m.n->src.len m=some n->Hid g s ρ m (fun a=>a=I)->
   ∃(fp:List Addr) (P:Nat->Value->Prop) (S:Nat->Heap->Prop),Walks prog w A I fp [I] n P S/\(∀k,(∃o:Obj,s.heap.get? I=some o/\d k o)->S k s.heap)/\
    (∀k h,S k h->∃o:Obj,h.get? I=some o/\d k o)/\(∀k v u (h':Heap),P k u->src.item k m=some v->(∀a o,¬a=I->s.heap.get? a=some o->h'.get? a=some o)->a_ ρ m.n h' v u))
  (ui:∀k (s:Shared) (K:Value->Shared->Prop),(∃o:Obj,s.heap.get? I=some o/\d k o)->K (.ref I) s->ay s cX A (model prog w) K (pyIter (.ref I))):
  kQ prog w g A aU src n (.ref I) (fun a=>a=I) (fun k h=>∃o:Obj,h.get? I=some o/\d k o) (fun k h O=>∃o:Obj,h.get? I=some o/\d k o) ρ0 n0 where
 ve:=fun k h h' ⟨o,e,r⟩ hk=>⟨o,hk _ _ rfl e,r⟩
 ex:=fun k h ⟨o,e,hc⟩ a ha=>⟨o,ha▸e,iu (hT _ _ hc) h1 h2⟩
 next:=fun s ρ m k v K hk S h4 h5 h6 h7 st H q=>by
  obtain⟨fp,P,St,W,a1,a2,a3⟩:=hW s ρ m S h4 h5 h6 H;refine aj (W.item k s _ _ hk (a1 k st) fun u h' t hP hS CG=> ?_);have Sr:∀a o,¬a=I->s.heap.get? a=some o->h'.get? a=some o:=fun a o ha e=>CG a o (by simpa using ha) e;exact q u _ ⟨Sr,rfl,rfl⟩ (a2 _ _ hS) (a3 k v u h' hP h7 Sr)
 done:=fun s ρ m K S h4 h5 h6 st H q=>by
  obtain⟨fp,P,St,W,a1,a2,a3⟩:=hW s ρ m S h4 h5 h6 H;refine aj (W.done s _ _ (a1 n st) fun h' t CG=> ?_);exact q _ ⟨fun a o ha e=>CG a o (by simpa using ha) e,rfl,rfl⟩
 self:=ui
 PK:=fun k h u ⟨o,e,hc⟩ a ha=>⟨o,ha▸e,iu (hT _ _ hc) h1 h2⟩
 quiet:=fun k s u K ⟨o,e,hd⟩ q=>aj (BR e (hT _ _ hd) h3 (q s ⟨fun O O O e=>e,rfl,rfl⟩ ⟨o,e,hd⟩))
variable {g:Heap}{ρ:Nat->Addr}{m:MH}
theorem src_list{aU:Expr}{i:Nat}{xs:List MV}{n:Nat}(hh:A.handled=none)(hi:i<m.n)(hn:(srcOf (.obj i)).len m=some n)(S:OK prog w g s ρ m){K:Value->Shared->Prop}
  (k:Given prog w g A aU (srcOf (.obj i)) n s ρ m K):
  ay s cX A (model prog w) K (pyIter (.ref (ρ i))):=by
 have Mr:∀ {s:Shared} {ρ':Nat->Addr} {m':MH} {g:Heap},OK prog w g s ρ' m'->i<m'.n->(srcOf (.obj i)).len m'=some n->∃xs vs e,m'.ob i= .list xs/\xs.length=n/\s.heap.get? (ρ' i)=some (fP vs e)/\bI ρ' m'.n s.heap xs vs:=by
  intro s ρ' m' g S hi hn;obtain⟨o,ho,r⟩:=S.ob i hi;obtain⟨xs,e,hl⟩:=Option.map_eq_some_iff.mp hn;have e:=MO.jO e;rw [e] at r;obtain⟨vs,ep,rfl,rs⟩:=r;exact⟨xs,vs,ep,e,hl,ho,rs⟩
 obtain⟨xs,vs,ep,h1,h2,h3,h4⟩:=Mr S hi hn;have hs:Sub s.heap (s.heap.push {cls:= .type "list_iterator",data:= .fields #[.ref (ρ i),.int 0 0]}):=fun a o e=>gT _ e;refine aj (wpAny_pyIter_list (items:=vs.toArray) ⟨_,h3,rfl,_,rfl⟩ ?_);refine k _ _ (fun a=>a=s.heap.objs.size) _ _ (S.grow hs) (.grow hs rfl rfl) (fun a ha=>ha▸⟨cA _,S.lD (cA _)⟩) ⟨_,iR _ rfl,rfl,rfl⟩
  (kQ.sZ (T:="list_iterator") (d:=fun k o=>o.cls= .type "list_iterator"/\o.data= .fields #[.ref (ρ i),.int k 0]) (fun O O h=>h.1) rfl rfl rfl (fun s' ρ' m' S' h4 h5 h6 H=> ?_) fun k s K ⟨o,e,c,d⟩ hK=> ?_)
 ·obtain⟨xs',Uv,CV,q1,q2,q3,q4⟩:=Mr S' (eE hi h5) h6;have i6:ρ i≠s.heap.objs.size:=by rw [<- h4 i hi];exact H.ρ _ rfl i (eE hi h5)
  have W:=Walks.list (prog:=prog) (w:=w) hh s.heap.objs.size (ρ i) i6 Uv.toArray;have hsz:Uv.toArray.size=n:=by simp [<- q4.length,q2]
  rw [hsz] at W;refine⟨_,_,_,W,fun k ⟨o,e,c,d⟩=>⟨⟨o,e,c,d⟩,⟨_,by rw [<- h4 i hi];exact q3,rfl,_,rfl⟩⟩,fun k h st=>let⟨o,e,c,d⟩:=st.1;⟨o,e,c,d⟩,fun k v u h' hP hv hk=> ?_⟩;rw [sY q1] at hv;obtain⟨u',e,r⟩:=q4.get hv;have HD:Uv[k]? =some u:=by simpa using hP
  rw [HD] at e;cases e;exact r.mono ⟨fun O O=>rfl,dU _,fun a o e f=>hk a o (fun q=>H.nO a o q e f) e⟩
 ·exact aj (wpAny_pyIter_listiter ⟨o,e,c,d⟩ hK)
theorem uj{aU:Expr}{o:Obj}{n n0:Nat}{src:Src}{St:Nat->Heap->Prop}{K:Value->Shared->Prop}(S:OK prog w g s ρ m)
  (k:Given prog w g A aU src n s ρ m K)
  (rD:St 0 (s.heap.push o)){Md:Nat->Heap->Value->Prop}(I:kQ prog w g A aU src n (.ref s.heap.objs.size) (fun a=>a=s.heap.objs.size) St Md ρ m.n):K (.ref s.heap.objs.size) {s with heap:=s.heap.push o}:=by
 have hs:Sub s.heap (s.heap.push o):=fun a o' e=>gT _ e;exact k _ _ (fun a=>a=s.heap.objs.size) St Md (S.grow hs) (.grow hs rfl rfl) (fun a ha=>ha▸⟨cA _,S.lD (cA _)⟩) rD I
theorem HE{aU:Expr}{b:List UInt8}{t:Tok}{n:Nat}(hh:A.handled=none)(hn:(srcOf (.bytes b)).len m=some n)(S:OK prog w g s ρ m){K:Value->Shared->Prop}
  (k:Given prog w g A aU (srcOf (.bytes b)) n s ρ m K):
  ay s cX A (model prog w) K (pyIter (.bytes b.toArray t)):=by
 have wd:b.toArray.size=n:=List.size_toArray.trans (d9 hn);have W:=KBw.walks (prog:=prog) (w:=w) hh s.heap.objs.size b.toArray t;rw [wd] at W;refine aj (KBw.pyIter_bytes ?_);refine uj (n0:=0) S k ⟨_,iR _ rfl,rfl,rfl⟩
  (kQ.sZ (T:="bytes_iterator") (d:=fun k o=>o.cls= .type "bytes_iterator"/\o.data= .fields #[.bytes b.toArray t,.int k 0]) (fun O O h=>h.1) rfl rfl rfl (fun s' ρ' m' S' h4 h5 h6 H=> ?_) fun k s K ⟨o,e,c,d⟩ hK=>aj (W.self k s _ _ ⟨o,e,c,d⟩ hK))
 refine⟨_,_,_,W,fun k ⟨o,e,c,d⟩=>⟨o,e,c,d⟩,fun k h ⟨o,e,c,d⟩=>⟨o,e,c,d⟩,fun k v u h' hP hv hk=> ?_⟩;obtain⟨c,tk,e,rfl⟩:=hP;have e':b[k]? =some c:=by simpa using e
 obtain rfl:=d9 ((congrArg (Option.map fun c:UInt8=>MV.int (c.toNat:Int)) e').symm.trans hv);exact .int _ _
theorem Ms{aU:Expr}{x:Str}{t:Tok}{n:Nat}(hh:A.handled=none)(hn:(srcOf (.str x)).len m=some n)(S:OK prog w g s ρ m){K:Value->Shared->Prop}
  (k:Given prog w g A aU (srcOf (.str x)) n s ρ m K):
  ay s cX A (model prog w) K (pyIter (.str x t)):=by
 obtain⟨hx,wd⟩:=kz hn;have W:=Walks.strAscii (prog:=prog) (w:=w) hh s.heap.objs.size x t;rw [wd] at W;refine aj (wpAny_pyIter_ascii hx ?_);refine uj (n0:=0) S k ⟨_,iR _ rfl,rfl,rfl⟩
  (kQ.sZ (T:="str_ascii_iterator") (d:=fun k o=>o.cls= .type "str_ascii_iterator"/\o.data= .fields #[.str x t,.int k 0]) (fun O O h=>h.1) rfl rfl rfl (fun s' ρ' m' S' h4 h5 h6 H=> ?_) fun k s K ⟨o,e,c,d⟩ hK=>aj (W.self k s _ _ ⟨o,e,c,d⟩ hK))
 refine⟨_,_,_,W,fun k ⟨o,e,c,d⟩=>⟨o,e,c,d⟩,fun k h ⟨o,e,c,d⟩=>⟨o,e,c,d⟩,fun k v u h' hP hv hk=> ?_⟩;obtain⟨c,tk,e,rfl⟩:=hP;obtain rfl:=d9 ((congrArg (Option.map fun c=>MV.str ⟨#[c]⟩) e).symm.trans hv);exact .str _ _
theorem Mt{aU:Expr}{x y:Int}{a:Addr}{t u v:Tok}{n:Nat}(hh:A.handled=none)(hn:(srcOf (.pk x y)).len m=some n)(ha:s.heap.get? a=some (Jh x y t u v))(S:OK prog w g s ρ m){K:Value->Shared->Prop}
  (k:Given prog w g A aU (srcOf (.pk x y)) n s ρ m K):
  ay s cX A (model prog w) K (pyIter (.ref a)):=by
 obtain⟨⟨rfl,h0,h1⟩,this⟩:=kz hn;have wd:y=(n:Int):=by exact Y5 h0 this
 subst wd;have hsz:Builtin.Range.rangeSize 0 (n:Int) 1=(n:Int):=by rw [rangeSize_one];split <;> omega
 have W:=Walks.range (prog:=prog) (w:=w) hh s.heap.objs.size 0 1 n;refine aj (wpAny_pyIter_range ha (small_one (by decide) (by decide) (by exact Y6 h0) (by exact Y7 h1)) ?_);rw [hsz];refine uj (n0:=0) S k ⟨_,iR _ rfl,rfl⟩
  (kQ.sZ (T:="range_iterator") (d:=fun k o=>o= {cls:= .type "range_iterator",dict:=none,data:= .fields #[rawInt (0+(k:Nat)*1),rawInt ((n:Int)-(k:Nat)),rawInt 1],slots:= #[]}) (fun O O h=>by rw [h]) rfl rfl rfl (fun s' ρ' m' S' h4 h5 h6 H=> ?_) fun k s K ⟨o,e,d⟩ hK=>aj (W.self k s _ _ (by rw [d] at e;exact e) hK))
 refine⟨_,_,_,W,fun k ⟨o,e,d⟩=>by rw [d] at e;exact e,fun k h e=>⟨_,e,rfl⟩,fun k v u h' hP hv hk=> ?_⟩;obtain⟨tk,rfl⟩:=hP;obtain rfl:=d9 hv;rw [show(0:Int)+(k:Int)*1=k by exact Y8];exact .int _ _
end
section
variable {n:Nat}{sg:Sg}
noncomputable def rS(x:MV):MM Src:=MM.ret (srcOf x)
theorem aY{aU e:Expr}{c:av->MM MV}(h:cD n sg e c):EV n sg aU e (oG c rS):=by
 intro prog w g A env fr s ρ m hA S F src m' e k hk K q;obtain⟨x,m1,e1,e⟩:=MM.bind_some e;obtain⟨rfl,rfl⟩:=MM.lE e;refine(h _ _ A _ _ _ _ _ _ hA S F).step e1 fun a s1 ρ1 S1 V1 r1=> ?_;have fin:Given prog w g A aU (srcOf x) k s1 ρ1 m' K:=fun it s2 X St Md S2 V2 hX rD I=>q it s2 ρ1 X St Md S2 (V1.comp V2) (fun a ha=>⟨V1.old (hX a ha).1,(hX a ha).2⟩) rD I;clear e1
 revert hk fin
 exact r1.casesOn bZ (fun O=>bZ) (fun O O=>bZ) (fun O O hk=>Ms hA.2.2 hk S1) (fun O O hk=>HE hA.2.2 hk S1) (fun O O=>bZ) (fun hr hk=>Mt hA.2.2 hk hr S1) (fun hi hk=>src_list (xs:= []) hA.2.2 hi hk S1) fun O=>bZ
end
end
section
variable {n:Nat}{α:Type}{ci:av->MM Src}{tg:MV->SM}{body:SM}{fr:av}{m:MH}{r:eH×av×MH}{src:Src}
section
variable {prog:Program}{w:World}{g:Heap}{A:Around}{s s' s0:Shared}{ρ ρ' ρ0:Nat->Addr}{m m' m0:MH}{sg:Sg}{env:Env}{fr:av}{T X:Addr->Prop}
theorem dh.hidden(V:dh T s ρ m s' ρ' m')(hx:∀a,X a->∃o,s.heap.get? a=some o)(hρ:∀a,X a->∀i,i<m.n->ρ i≠a)(hT:∀a,X a->¬T a):
  (∀a,X a->∀i,i<m'.n->ρ' i≠a)/\∀a o,X a->s.heap.get? a=some o->s'.heap.get? a=some o:=by
 refine⟨fun a ha i hi q=> ?_,fun a o ha e=>V.keep a o e (hρ a ha) (hT a ha)⟩
 by_cases h:i<m.n
 ·exact hρ a ha i h ((V.ix i h).symm.trans q)
 ·have:=V.new i (Nat.le_of_not_lt h) hi;obtain⟨o,e⟩:=hx a ha;rw [q,e] at this;cases this
theorem dh.Mu(V:dh T s0 ρ0 m0 s ρ m)(hX:∀a,X a->s0.heap.get? a=none)(k:∀a o,¬X a->s.heap.get? a=some o->s'.heap.get? a=some o)(ho:s'.os=s.os)(hg:s'.gens=s.gens):dh T s0 ρ0 m0 s' ρ m where
 ix:=V.ix
 n:=V.n
 new:=V.new
 alive:=fun a o e=>by
  obtain⟨o',q⟩:=V.alive a o e;exact⟨o',k a o' (fun x=>by rw [hX a x] at e;cases e) q⟩
 nO:=fun a o e f=>k a o (fun x=>by rw [hX a x] at e;cases e) (V.nO a o e f)
 keep:=fun a o e h1 h2=>k a o (fun x=>by rw [hX a x] at e;cases e) (V.keep a o e h1 h2)
 os:=ho.trans V.os
 gens:=hg.trans V.gens
theorem dw.qx(F:dw sg env fr g s ρ n)(h:∀a,Own env a->¬X a)(k:∀a o,¬X a->s.heap.get? a=some o->s'.heap.get? a=some o)(M:lu ρ n s.heap ρ n s'.heap):dw sg env fr g s' ρ n:=by
 refine⟨F.ev, ?_, ?_, ?_,F.ap⟩
 ·obtain⟨mp,h1,h2⟩:=F.loc;exact⟨mp,Hx h1 fun o e=>k _ o (h _ (.inl rfl)) e,fun i x a b=>(h2 i x a b).mono M⟩
 ·intro i x a b;obtain⟨c,v,h1,h2,h3⟩:=F.y9 i x a b;exact⟨c,v,h1,u7 h2 fun o e=>k _ o (h _ (.inr ⟨_,h1⟩)) e,h3.mono M⟩
 ·intro a ha;obtain⟨h1,h2,o,h3⟩:=F.own a ha;exact⟨h1,h2,o,k a o (h a ha) h3⟩
theorem Hid.mono(H:Hid g s ρ m X)(k:∀a o,¬X a->s.heap.get? a=some o->s'.heap.get? a=some o):lu ρ m.n s.heap ρ m.n s'.heap:=
 ⟨fun O O=>rfl,dU _,fun a o e f=>k a o (fun x=>H.nO a o x e f) e⟩
end
noncomputable def CW{α:Type}(k:av->MH->Option α):Option (eH×av×MH)->Option α
 |some (.next,fr,m)=>k fr m
 |_=>none
theorem xg{k:av->MH->Option α}{r:α}:∀ {o:Option (eH×av×MH)},CW k o=some r->∃fr m,o=some (.next,fr,m)/\k fr m=some r
 |none,h=>bZ h
 |some (f,fr,m),h=>by
  cases f with
  |next=>exact⟨fr,m,rfl,h⟩
  |_=>exact bZ h
theorem zg{c:Prop}[Decidable c]{a:Option α}{b:α}(h:(if c then a else none)=some b):c/\a=some b:=by
 by_cases q:c
 ·rw [if_pos q] at h;exact⟨q,h⟩
 ·rw [if_neg q] at h;exact bZ h
noncomputable def HF(rest:av->MH->Option (eH×av×MH)):Option (eH×av×MH)->Option (eH×av×MH)
 |some (.next,fr,m)=>rest fr m
 |some (.cont,fr,m)=>rest fr m
 |some (.brk,fr,m)=>some (.next,fr,m)
 |r=>r
namespace SM
noncomputable def loop(src:Src)(n:Nat)(tg:MV->SM)(body:SM):Nat->SM
 |0=>fun fr m=>if src.len m=some n then some (.next,fr,m) else none
 |r+1=>fun fr m=>if src.len m=some n then(src.item (n-(r+1)) m).bind fun v=>CW (fun et m1=>HF (loop src n tg body r) (body et m1)) (tg v fr m) else none
noncomputable def forIn(ci:av->MM Src)(tg:MV->SM)(body:SM):SM:=fun fr m=>(ci fr m).bind fun x=>(x.1.len x.2).bind fun n=>loop x.1 n tg body n fr x.2
end SM
theorem SM.forIn_some(e:SM.forIn ci tg body fr m=some r):∃src m1 N,ci fr m=some (src,m1)/\src.len m1=some N/\SM.loop src N tg body N fr m1=some r:=by
 obtain⟨x,e1,e⟩:=bj e;obtain⟨N,e2,e⟩:=bj e;exact⟨x.1,x.2,N,e1,e2,e⟩
structure Turn (src:Src) (n:Nat) (tg:MV->SM) (k:Nat) (fr:av) (m:MH) (v:MV) (et:av) (m1:MH):Prop where
 len:src.len m=some n
 item:src.item k m=some v
 tg:tg v fr m=some (.next,et,m1)
theorem SM.HG(e:SM.loop src n tg body 0 fr m=some r):src.len m=some n/\(.next,fr,m)=r:=kz e
theorem SM.HH{k j:Nat}(hj:n-(j+1)=k)(e:SM.loop src n tg body (j+1) fr m=some r):∃v et m1,Turn src n tg k fr m v et m1/\HF (SM.loop src n tg body j) (body et m1)=some r:=by
 obtain⟨hl,e⟩:=zg e;rw [hj] at e;obtain⟨v,e1,e⟩:=bj e;obtain⟨et,m1,e2,e⟩:=xg e;exact⟨v,et,m1,⟨hl,e1,e2⟩,e⟩
structure CB (prog:Program) (w:World) (g:Heap) (T:Addr->Prop) (s0:Shared) (ρ0:Nat->Addr) (m0:MH) (HI:Sg) (cenv:Env) (Y:Addr->Prop) (ρ1:Nat->Addr) (n1:Nat) (s:Shared) (ρ:Nat->Addr) (m:MH) (fr:av):Prop where
 ok:OK prog w g s ρ m
 dQ:dh T s0 ρ0 m0 s ρ m
 ix:∀i,i<n1->ρ i=ρ1 i
 n:n1<=m.n
 qx:∀a,Y a->∀i,i<m.n->ρ i≠a
 zh:dw HI cenv fr g s ρ m.n
structure Jn (g:Heap) (s0:Shared) (cenv:Env) (Y:Addr->Prop):Prop where
 s0:∀a,Y a->s0.heap.get? a=none
 own:∀a,Own cenv a->¬Y a
 g:∀a,Y a->g.get? a=none
section
variable {prog:Program}{w:World}{g:Heap}{s0 s s':Shared}{ρ0 ρ1 ρ ρ':Nat->Addr}{m0 m m':MH}{HI:Sg}{cenv:Env}{Y Z T T0:Addr->Prop}{n1:Nat}{fr fE:av}
theorem CB.kO(B:CB prog w g T s0 ρ0 m0 HI cenv Y ρ1 n1 s ρ m fr)(V:Jn g s0 cenv Y)(hZ:∀a,Z a->Y a)(hf:∀a o,Z a->s.heap.get? a=some o->¬l_ o)(k:Kept Z s s'):CB prog w g T s0 ρ0 m0 HI cenv Y ρ1 n1 s' ρ m fr/\lu ρ m.n s.heap ρ m.n s'.heap:=by
 have H:Hid g s ρ m Z:=⟨fun a ha=>V.g a (hZ a ha),fun a ha=>B.qx a (hZ a ha),hf⟩;have M:=H.mono k.h;exact⟨⟨B.ok.kO H k.h,B.dQ.Mu (fun a ha=>V.s0 a (hZ a ha)) k.h k.os k.gens,B.ix,B.n,B.qx,B.zh.qx (fun a h1 h2=>V.own a h1 (hZ a h2)) k.h M⟩,M⟩
theorem CB.next(B:CB prog w g T s0 ρ0 m0 HI cenv Y ρ1 n1 s ρ m fr)(S:OK prog w g s' ρ' m')(V:dh T0 s ρ m s' ρ' m')(F:dw HI cenv fE g s' ρ' m'.n)(hT0:∀a o,s0.heap.get? a=some o->T0 a->T a)(hTY:∀a,Y a->¬T0 a)(hex:∀a,Y a->∃o,s.heap.get? a=some o/\¬l_ o):
  CB prog w g T s0 ρ0 m0 HI cenv Y ρ1 n1 s' ρ' m' fE/\∀a o,Y a->s.heap.get? a=some o->s'.heap.get? a=some o:=by
 obtain⟨h1,h2⟩:=V.hidden (fun a ha=>(hex a ha).elim fun o q=>⟨o,q.1⟩) B.qx hTY;exact⟨⟨S,B.dQ.trans V hT0,fun i hi=>(V.ix i (eE hi B.n)).trans (B.ix i hi),jc B.n V.n,h1,F⟩,h2⟩
end
section
variable {prog:Program}{w:World}{A:Around}{env:Env}{R:Result->Shared->Prop}{I:Nat->Shared->Prop}{aU:Expr}{it:Value}{body:List Stmt}{n:Nat}
def adn(R:Result->Shared->Prop)(I:Nat->Shared->Prop)(n:Nat):Flow->Shared->Prop
 | .next,s=>∃m,m<n/\I m s
 | .cont,s=>∃m,m<n/\I m s
 | .brk,s=>R (.ok .next) s
 | .ret v,s=>R (.ok (.ret v)) s
def ado(prog:Program)(w:World)(A:Around)(env:Env)(body:List Stmt)(R:Result->Shared->Prop)(I:Nat->Shared->Prop)(n:Nat)(s:Shared):Prop:=ay s cX A (model prog w) (adn R I n) (execs body env)
def adp(prog:Program)(w:World)(A:Around)(env:Env)(aU:Expr)(v:Value)(body:List Stmt)(R:Result->Shared->Prop)(I:Nat->Shared->Prop)(n:Nat)(s:Shared):Prop:=ay s cX A (model prog w) (fun O=>ado prog w A env body R I n) (assign aU env v)
def adq(prog:Program)(w:World)(A:Around)(env:Env)(aU:Expr)(it:Value)(body:List Stmt)(R:Result->Shared->Prop)(I:Nat->Shared->Prop)(n:Nat):Option Value->Shared->Prop
 |none,s=>R (.ok .next) s
 |some v,s=>ay s cX A (model prog w) (fun O=>adp prog w A env aU v body R I n) (letOwnedTupleGo aU it v)
theorem HJ(I:Nat->Shared->Prop)(turn:∀n s,I n s->∀I':Nat->Shared->Prop,(∀m s,I m s->I' m s)->ay s cX A (model prog w) (adq prog w A env aU it body R I' n) (pyNext it))(n:Nat){s:Shared}(h:I n s):cQ (model prog w) A (.forLoop aU it body [] env) R s:=by
 refine yZ I (fun n s hI=>fb (au (turn n s hI I fun O O h=>h) (fun r s1 h1=> ?_) fun O O x=>x)) n h;cases r with
 |none=>exact aj (wpAny_execs_nil h1)
 |some v=>exact fb (au h1 (fun O s2 h2=>fb (au h2 (fun O s3 h3=>fb (au h3 (fun f s4 h4=>by cases f <;> exact h4) fun O O x=>x)) fun O O x=>x)) fun O O x=>x)
end
inductive adt (prog:Program) (w:World) (g:Heap) (s:Shared) (ρ:Nat->Addr) (m:MH) (sg:Sg) (env:Env) (X:Addr->Prop) (St:Nat->Heap->Prop) (ρ1:Nat->Addr) (n1:Nat) (src:Src) (N:Nat) (tg:MV->SM) (c:SM) (r:eH×av×MH) (j:Nat) (s':Shared):Prop where
 |mk (k:Nat) (mc:av) (ρ2:Nat->Addr) (m2:MH) (hj:j=N-k) (hk:k<=N) (B:CB prog w g (Own env) s ρ m sg env X ρ1 n1 s' ρ2 m2 mc) (st:St k s'.heap) (e:SM.loop src N tg c (N-k) mc m2=some r)
section
variable {n:Nat}{sg:Sg}
theorem dM{aU iter:Expr}{body:List Stmt}{p:Pos}{c:SM}(hi:EV n sg aU iter ci)(ht:rQ false sg aU tg)(hb:qX n sg body c)
  (hs:∀env x,foldedSetIterable iter env x=pure x):fY n sg (.For aU iter body [] p) (SM.forIn ci tg c):=by
 intro prog w A g env fr s ρ m hA S F;refine .of fun f fE m' e=> ?_;refine Kl fun Q1 hQ=> ?_;obtain⟨src,m1,N,e1,e2,e⟩:=SM.forIn_some e;refine L9 (hi _ _ _ A _ _ _ _ _ hA S F _ _ e1 N e2 _ fun it s1 ρ1 X St Md S1 V1 hX rD I=> ?_) (fun x=>hs env x);refine(?_:cQ (model prog w) A _ _ s1);have vl:Jn g s env X:=⟨fun a ha=>(hX a ha).1,fun a ha hx=>by
  obtain⟨_,_,o,e⟩:=F.own a ha;rw [(hX a hx).1] at e;exact bZ e,fun a ha=>S.pv (hX a ha).1⟩
 refine HJ (adt prog w g s ρ m sg env X St ρ1 m1.n src N tg c (f,fE,m')) ?_ (N-0) ⟨0,fr,ρ1,m1,rfl,Nat.zero_le _,⟨S1,V1.weak,fun O O=>rfl,dU _,fun a ha=>(hX a ha).2,F.dQ V1⟩,rD,e⟩;clear S1 V1 hX rD e e2;intro j s2 J I2 PM;generalize hR:(fun(r:Result) (s':Shared)=>_)=R;cases J with
 |mk k mc ρ2 m2 hj hk B st e=>
 subst hj;have H2:Hid g s2 ρ2 m2 X:=⟨vl.g,B.qx,fun a o ha eo=>by
  obtain⟨o',q1,q2⟩:=I.ex k _ st a ha;exact d9 (q1.symm.trans eo)▸q2⟩
 rcases Nat.lt_or_ge k N with ke|vf
 ·obtain⟨r,hr⟩:∃r,N-k=r+1:=⟨N-k-1,Wx ke⟩;rw [hr] at e ⊢;have CX:N-(k+1)=r:=Wu ke hr;obtain⟨v,Mv,m5,⟨hlen,hv,e5⟩,e⟩:=SM.HH (Wy ke hr) e;refine I.next s2 ρ2 m2 k v _ ke B.ok B.ix B.n hlen hv st H2 fun u s3 k3 EX r3=> ?_;obtain⟨B3,M3⟩:=B.kO vl (fun O h=>h) H2.nO k3;refine I.quiet (k+1) s3 u _ EX fun s4 k4 xh=> ?_;obtain⟨B4,M4⟩:=B3.kO vl (fun O h=>h) (fun a o ha eo=>by
   obtain⟨o',q1,q2⟩:=I.PK _ _ _ EX a ha;exact d9 (q1.symm.trans eo)▸q2) k4
  refine aj (ht _ _ A _ _ _ _ _ _ _ _ hA.2.2 B4.ok B4.zh (r3.mono M4) _ _ _ e5 _ _ fun s5 ρ5 S5 V5 F5 O=> ?_);obtain⟨B5,k5⟩:=B4.next S5 V5 F5 (fun O O O h=>h) (fun a ha q=>vl.own a q ha) (I.ex _ _ xh);have p_:=I.ve _ _ _ xh k5;cases e6:c Mv m5 with
  |none=>rw [e6] at e;exact bZ e
  |some x=>
   obtain⟨f6,Ux,m6⟩:=x;rw [e6] at e;refine(hb _ _ A _ _ _ _ _ _ hA B5.ok B5.zh).step e6 fun fl s6 ρ6 S6 V6 r6 F6=> ?_;obtain⟨B6,k6⟩:=B5.next S6 V6 F6 (fun O O O h=>h) (fun a ha q=>vl.own a q ha) (I.ex _ _ p_);have EY:=I.ve _ _ _ p_ k6;have more:SM.loop src N tg c r Ux m6=some (f,fE,m')->∃j,j<r+1/\I2 j s6:=fun e=>⟨r,gA _,PM _ _ ⟨k+1,Ux,ρ6,m6,CX.symm,ke,B6,EY,CX.symm▸e⟩⟩;cases f6 with
   |next=>cases r6;exact more e
   |cont=>cases r6;exact more e
   |brk=>
    cases r6;obtain⟨rfl,rfl,rfl⟩:=Prod.mk.inj (d9 e) |>.imp_right Prod.mk.inj
    subst hR;exact hQ _ _ ⟨ρ6,S6,B6.dQ,.next,F6⟩
   |ret v'=>
    obtain⟨rfl,rfl,rfl⟩:=Prod.mk.inj (d9 e) |>.imp_right Prod.mk.inj
    subst hR;cases r6 with|ret r6=>exact hQ _ _ ⟨ρ6,S6,B6.dQ,.ret r6,F6⟩
 ·obtain rfl:k=N:=Nat.le_antisymm hk vf;rw [Nat.sub_self] at e ⊢;obtain⟨hlen,q⟩:=SM.HG e;obtain⟨rfl,rfl,rfl⟩:=Prod.mk.inj q |>.imp_right Prod.mk.inj
  refine I.done s2 ρ2 m2 _ B.ok B.ix B.n hlen st H2 fun s3 k3=> ?_;obtain⟨B3,M3⟩:=B.kO vl (fun O h=>h) H2.nO k3;subst hR;exact hQ _ _ ⟨ρ2,B3.ok,B3.dQ,.next,B3.zh⟩
end
end
section
variable {sc scope:Scope}{env:Env}{α:Type}
noncomputable def gY(src:Src)(n:Nat)(tg:MV->SM)(test:av->MM Bool)(dy:av->MM MV):Nat->List MV->av->MH->Option (List MV×MH)
 |0=>fun ys fr m=>if src.len m=some n then some (ys,m) else none
 |r+1=>fun ys fr m=>if src.len m=some n then(src.item (n-(r+1)) m).bind fun v=>CW (fun et m1=>(test et m1).bind fun t=>bif t.1 then(dy et t.2).bind fun y=>gY src n tg test dy r (ys++ [y.1]) et y.2 else gY src n tg test dy r ys et t.2) (tg v fr m) else none
noncomputable def jg(ci:av->MM Src)(k:Nat)(idx:List Nat)(tg:MV->SM)(test:av->MM Bool)(dy:av->MM MV):av->MM MV:=fun fr m=>(ci fr m).bind fun x=>(x.1.len x.2).bind fun n=>if n<=100000 then(gY x.1 n tg test dy n [] (List.replicate k none++idx.map (slot fr)) x.2).bind fun y=>some (.obj y.2.n,y.2.new (.list y.1)) else none
noncomputable def yG(nm:List (Str×NameKind))(names:List (Str×NameKind)):List (Str×NameKind):=names.map fun x=>(x.1,if(x.2==NameKind.free&&nm.lookup x.1==some .cell)=true then NameKind.cell else x.2)
noncomputable def wg(sg:Sg)(sc:Scope):List Str->List Nat->Bool
 | []=>fun is=>is.isEmpty
 |x::xs=>fun is=>List.casesOn is false fun i is=>sg.ks[i]? ==some x&&(sg.nm.lookup x==some .cell&&(sc.names.lookup x==some .free&&wg sg sc xs is))
noncomputable def qy(sg:Sg)(sc:Scope)(own cap gs:List Str)(idx:List Nat):Bool:=
 sc.kind== .function&&(sc.names.all (fun x=>x.2 != .cell)&&(sc.names.all (fun x=>x.2 != .local||sc.names.lookup x.1==some .local)&&(sc.names.all (fun x=>x.2 != .free||sg.nm.lookup x.1==some .cell&&sg.ks.contains x.1)&&
 (own.all (fun x=>sc.names.lookup x==some .local)&&(gs.all (fun x=>sc.names.lookup x==some .globalImplicit)&&(decide (own++cap).Nodup&&((own++cap).all (fun x=> !(x==("__debug__":Str)))&&(gs.all (fun x=> !(x==("__debug__":Str)))&&wg sg sc cap idx))))))))
noncomputable abbrev iT(sg:Sg)(sc:Scope)(own cap gs:List Str):Sg:=⟨own++cap,gs,yG sg.nm sc.names⟩
theorem jh{nm:List (Str×NameKind)}{x:Str}:∀ {names:List (Str×NameKind)},(yG nm names).lookup x=(names.lookup x).map fun k=>if(k==NameKind.free&&nm.lookup x==some .cell)=true then NameKind.cell else k
 | []=>rfl
 |(n,k)::r=>by
  have ih:= @jh nm x r;unfold yG at ih ⊢;rw [List.map_cons,List.lookup_cons,List.lookup_cons];cases h:x==n with
  |true=>have:=eq_of_beq h;subst this;rfl
  |false=>exact ih
theorem Sw{a b c d:Bool}(h:(a&&(b&&(c&&d)))=true):a=true/\b=true/\c=true/\d=true:=
 have p:=Bool.and_eq_true_iff.mp h;have q:=Bool.and_eq_true_iff.mp p.2;have r:=Bool.and_eq_true_iff.mp q.2;⟨p.1,q.1,r.1,r.2⟩
theorem wg.get{sg:Sg}:∀ {cap:List Str} {idx:List Nat},wg sg sc cap idx=true->∀ {j:Nat} {x:Str},cap[j]? =some x->∃i,idx[j]? =some i/\sg.ks[i]? =some x/\sg.nm.lookup x=some .cell/\sc.names.lookup x=some .free
 | [],_,_,_,_,e=>bZ e
 |_::_, [],h,_,_,_=>Bool.noConfusion h
 |y::ys,i::is,h,0,x,e=>
  have h:=Sw h
  (d9 e:y=x)▸⟨i,rfl,eq_of_beq h.1,eq_of_beq h.2.1,eq_of_beq h.2.2.1⟩
 |y::ys,i::is,h,j+1,x,e=>wg.get (cap:=ys) (idx:=is) (Sw h).2.2.2 (j:=j) e
theorem EZ(f:Str->Addr)(h:∀x∈scope.names,x.2= .free->env.cells.lookup x.1=some (f x.1)):closureFor scope env=pure ((scope.names.filter (·.2== .free)).map fun x=>(x.1,f x.1)).reverse:=by
 unfold closureFor;have key:∀(names:List (Str×NameKind)) (acc:List (Str×Addr)),(∀x∈names,x.2= .free->env.cells.lookup x.1=some (f x.1))->
   (forIn names acc fun(x:Str×NameKind) (r:List (Str×Addr))=>(do if x.2== .free then pure (ForInStep.yield ((x.1, <- cellOf env x.1)::r)) else pure (ForInStep.yield r):Sem _))=pure (((names.filter (·.2== .free)).map fun x=>(x.1,f x.1)).reverse++acc):=by
  intro names
  induction names with
  |nil=>intro acc _;simp
  |cons x names ih=>
   intro acc hx;rw [List.forIn_cons];have ih':=fun acc=>ih acc fun y hy=>hx y (.tail _ hy);cases hb:x.2==NameKind.free with
   |false=>simpa [hb] using ih' acc
   |true=>
    have h1:=hx x (.head _) (by simpa using hb);have h2:cellOf env x.1=pure (f x.1):=by delta cellOf;rw [h1]
    simpa [hb,h2] using ih' ((x.1,f x.1)::acc)
 have:=key scope.names [] h
 simpa using this
theorem lookup_mem:∀ {l:List (Str×α)} {x:Str} {a:α},l.lookup x=some a->(x,a)∈l
 | [],_,_,h=>by simp at h
 |(y,v)::l,x,a,h=>by
  rw [List.lookup_cons] at h;cases e:x==y with
  |true=>rw [e] at h;cases h;have:=eq_of_beq e;subst this;exact .head _
  |false=>rw [e] at h;exact .tail _ (lookup_mem h)
theorem rR:∀ {l:List (Str×α)} {x:Str} {a:α},(∀b,(x,b)∈l->b=a)->(x,a)∈l->l.lookup x=some a
 | [],_,_,_,h=>by simp at h
 |(y,v)::l,x,a,hf,h=>by
  rw [List.lookup_cons];cases e:x==y with
  |true=>have:=eq_of_beq e;subst this;rw [hf v (.head _)]
  |false=>
   refine rR (fun b hb=>hf b (.tail _ hb)) ?_;rcases List.mem_cons.mp h with q|q
   ·cases q;simp at e
   ·exact q
theorem CY(h:∀x∈scope.names,x.2= .free->∃a,env.cells.lookup x.1=some a):∃cl,closureFor scope env=pure cl/\(∀x a,cl.lookup x=some a->env.cells.lookup x=some a)/\∀x,scope.names.lookup x=some .free->cl.lookup x=env.cells.lookup x:=by
 have h':∀x∈scope.names,x.2= .free->env.cells.lookup x.1=some ((env.cells.lookup x.1).getD 0):=fun x hx hf=>by
  obtain⟨a,e⟩:=h x hx hf;rw [e];rfl
 refine⟨_,EZ (fun x=>(env.cells.lookup x).getD 0) h',fun x a e=> ?_,fun x hx=> ?_⟩
 ·have:=lookup_mem e;rw [List.mem_reverse,List.mem_map] at this;obtain⟨⟨y,k⟩,hy,q⟩:=this;cases q;rw [List.mem_filter] at hy;exact h' _ hy.1 (by simpa using hy.2)
 ·have hm:=lookup_mem hx;obtain⟨a,e⟩:=h _ hm rfl;rw [e];refine rR (fun b hb=> ?_) ?_
  ·rw [List.mem_reverse,List.mem_map] at hb;obtain⟨⟨y,k⟩,hy,q⟩:=hb;cases q;rw [e];rfl
  ·rw [List.mem_reverse,List.mem_map];exact⟨(x,.free),List.mem_filter.mpr ⟨hm,rfl⟩,by dsimp only;rw [e];rfl⟩
section
variable {prog:Program}{w:World}{g:Heap}{A:Around}{s s' s0:Shared}{ρ ρ' ρ0:Nat->Addr}{m m' m0:MH}{sg:Sg}{env:Env}{fr:av}
theorem E0{own cap gs:List Str}{idx:List Nat}{cl:List (Str×Addr)}{C:Addr}(hc:qy sg sc own cap gs idx=true)(F:dw sg env fr g s ρ m.n)(S:OK prog w g s ρ m)
  (h1:∀x a,cl.lookup x=some a->env.cells.lookup x=some a)(h2:∀x,sc.names.lookup x=some .free->cl.lookup x=env.cells.lookup x){mp:Str->Option Value}(hC:s.heap.Ns C mp)(E2:g.get? C=none)(Ks:∀i,i<m.n->ρ i≠C):
  dw (iT sg sc own cap gs) (compEnvC sc cl C env) (List.replicate own.length none++idx.map (slot fr)) g s ρ m.n:=by
 simp only [qy,Bool.and_eq_true,beq_iff_eq,List.all_eq_true,bne_iff_ne,Bool.or_eq_true,decide_eq_true_eq,Bool.not_eq_true'] at hc;obtain⟨hk,rT,yD,Mw,BS,hgs,HK,Mx,My,adx⟩:=hc;have hnm:(relabel sc env).names=yG sg.nm sc.names:=by
  refine List.map_congr_left fun x hx=> ?_;obtain⟨n,k⟩:=x;have:env.kindOf n=sg.nm.lookup n:=by unfold Env.kindOf;rw [F.ev.nm]
  simp only [F.ev.kind,this,beq_self_eq_true,Bool.and_true]
  split <;> rfl
 have Mz:=fun {j:Nat} {x:Str} (e:cap[j]? =some x)=>wg.get adx e;have uk:∀ {j:Nat} {x:Str},(own++cap)[j]? =some x->(sc.names.lookup x=some .local/\j<own.length)\/(∃i,idx[j-own.length]? =some i/\sg.ks[i]? =some x/\sg.nm.lookup x=some .cell/\sc.names.lookup x=some .free/\own.length<=j):=fun {j x} e=>by
  by_cases h:j<own.length
  ·rw [List.getElem?_append_left h] at e;exact .inl ⟨BS x (jC e),h⟩
  ·rw [List.getElem?_append_right (Nat.le_of_not_lt h)] at e;obtain⟨i,a,b,c,d⟩:=Mz e;exact .inr ⟨i,a,b,c,d,Nat.le_of_not_lt h⟩
 refine⟨⟨hk,hnm,F.ev.PG,F.ev.bui,fun x hx=> ?_,fun x hx=> ?_,HK,fun x hx=>Mx x hx,fun x hx=>My x hx⟩,⟨mp,hC,fun j x hj hl=> ?_⟩,fun j x hj hl=> ?_,fun a ha=> ?_,fun x y a hx hy=>F.ap x y a (h1 x a hx) (h1 y a hy)⟩
 ·rw [jh];obtain⟨j,hj⟩:=List.getElem?_of_mem hx;rcases uk hj with⟨e,_⟩|⟨i,_,_,e1,e2,_⟩
  ·left;rw [e];rfl
  ·right;rw [e2,Option.map_some,e1];rfl
 ·rw [jh,hgs x hx];rfl
 ·rw [jh] at hl;rcases uk hj with⟨_,h⟩|⟨i,_,_,e1,e2,_⟩
  ·have:slot (List.replicate own.length none++idx.map (slot fr)) j=none:=by
    unfold slot;rw [List.getElem?_append_left (by simpa using h),List.getElem?_replicate];simp [h]
   rw [this];trivial
  ·rw [e2,Option.map_some,e1] at hl;simp at hl
 ·rw [jh] at hl;rcases uk hj with⟨e,h⟩|⟨i,a,b,e1,e2,h⟩
  ·rw [e] at hl;simp at hl
  ·obtain⟨c,v,q1,q2,q3⟩:=F.y9 i x b e1;refine⟨c,v,(h2 x e2).trans q1,q2, ?_⟩;have:slot (List.replicate own.length none++idx.map (slot fr)) j=slot fr i:=by
    conv=>lhs;unfold slot
    rw [List.getElem?_append_right (by simpa using h),List.length_replicate,List.getElem?_map,a]
    rfl
   rw [this];exact q3
 ·rcases ha with rfl|⟨x,hx⟩
  ·obtain⟨o,es,ep,e,_⟩:=hC;exact⟨E2,Ks,o,e⟩
  ·exact F.own a (.inr ⟨x,h1 x a hx⟩)
end
end
section
variable {ci:av->MM Src}{k line n:Nat}{idx:List Nat}{tg:MV->SM}{test:av->MM Bool}{dy iter aU:Expr}{fr:av}{m:MH}{src:Src}{ys:List MV}{r:List MV×MH}{sc scope:Scope}{pos py:Pos}{s:Shared}{prog:Program}{w:World}{g:Heap}{A:Around}{ifs:List Expr}{env:Env}{ce:av->MM MV}{cap gs own:List Str}{gens:List Comprehension}{y:Str}
noncomputable def tests(env:Env)(ifs:List Expr):Sem Bool:=forIn ifs true fun c r=>if r=true then do let ok <- PySem.isTrue c env (eval c env);pure (ForInStep.yield ok) else pure (ForInStep.yield r)
def zi(n:Nat)(sg:Sg)(ifs:List Expr)(c:av->MM Bool):Prop:=
 ∀prog w A g env fr s ρ m,dj n A->OK prog w g s ρ m->dw sg env fr g s ρ m.n->Comes Uq s ρ m prog w g A (c fr m) (tests env ifs)
section
variable {n:Nat}{sg:Sg}
theorem c_:zi n sg [] (Kc true):=by
 intro prog w A g env fr s ρ m hA S F;exact Comes.pure S fun K k=>ax (k _ _ rfl rfl rfl rfl)
theorem wh{e:Expr}{c:av->MM Bool}(h:qW n sg e c):zi n sg [e] c:=by
 intro prog w A g env fr s ρ m hA S F;refine .of fun b m' e1=> ?_;unfold tests;rw [List.forIn_cons];refine af ?_;rw [if_pos rfl];refine af ((h _ _ A _ _ _ _ _ _ hA S F).step e1 fun a s1 ρ1 S1 V1 r1=>ax ?_);exact ax ⟨ρ1,S1,V1,r1⟩
end
theorem E3{dy:av->MM MV}{r:MV×MH}(e:jg ci k idx tg test dy fr m=some r):
  ∃src m1 N zs mz,ci fr m=some (src,m1)/\src.len m1=some N/\N<=100000/\gY src N tg test dy N [] (List.replicate k none++idx.map (slot fr)) m1=some (zs,mz)/\(MV.obj mz.n,mz.new (.list zs))=r:=by
 obtain⟨x,e1,e⟩:=bj e;obtain⟨N,e2,e⟩:=bj e;obtain⟨hN,e⟩:=zg e;obtain⟨y,e3,e⟩:=bj e;exact⟨x.1,x.2,N,y.1,y.2,e1,e2,hN,e3,d9 e⟩
theorem CZ{dy:av->MM MV}(e:gY src n tg test dy 0 ys fr m=some r):src.len m=some n/\(ys,m)=r:=kz e
theorem C3{j:Nat}{dy:av->MM MV}(hj:n-(j+1)=k)(e:gY src n tg test dy (j+1) ys fr m=some r):
  ∃v et m1 t m2,Turn src n tg k fr m v et m1/\test et m1=some (t,m2)/\(bif t then(dy et m2).bind fun y=>gY src n tg test dy j (ys++ [y.1]) et y.2 else gY src n tg test dy j ys et m2)=some r:=by
 obtain⟨hl,e⟩:=zg e;rw [hj] at e;obtain⟨v,e1,e⟩:=bj e;obtain⟨et,m1,e2,e⟩:=xg e;obtain⟨t,e3,e⟩:=bj e;exact⟨v,et,m1,t.1,t.2,⟨hl,e1,e2⟩,e3,e⟩
section
variable {prog:Program}{w:World}{A:Around}{env:Env}{R:Result->Shared->Prop}{I:Nat->Shared->Prop}{dy aU iter:Expr}{ifs:List Expr}{it acc:Value}{n:Nat}
def ady(prog:Program)(w:World)(A:Around)(env:Env)(dy:Expr)(acc:Value)(I:Nat->Shared->Prop)(n:Nat)(ok:Bool)(s:Shared):Prop:=
 bif ok then ay s cX A (model prog w) (fun x s9=>ay s9 cX A (model prog w) (fun O s₅=>∃m,m<n/\I m s₅) (call (.builtin "list.append") [acc,x])) (eval dy env) else∃m,m<n/\I m s
def adz(prog:Program)(w:World)(A:Around)(env:Env)(aU:Expr)(ifs:List Expr)(dy:Expr)(acc v:Value)(I:Nat->Shared->Prop)(n:Nat)(s:Shared):Prop:=
 ay s cX A (model prog w) (fun O s9=>ay s9 cX A (model prog w) (ady prog w A env dy acc I n) (tests env ifs)) (assign aU env v)
def adA(prog:Program)(w:World)(A:Around)(env:Env)(aU:Expr)(ifs:List Expr)(dy:Expr)(it acc:Value)(R:Result->Shared->Prop)(I:Nat->Shared->Prop)(n:Nat):Option Value->Shared->Prop
 |none,s=>R (.ok .next) s
 |some v,s=>ay s cX A (model prog w) (fun O=>adz prog w A env aU ifs dy acc v I n) (letOwnedTupleGo aU it v)
theorem HM(I:Nat->Shared->Prop)(turn:∀n s,I n s->∀I':Nat->Shared->Prop,(∀m s,I m s->I' m s)->ay s cX A (model prog w) (adA prog w A env aU ifs dy it acc R I' n) (pyNext it))(n:Nat)(h:I n s):
  cQ (model prog w) A (.compLoop (.ListComp dy [⟨aU,iter,ifs,0⟩] scope pos) 0 it acc env) R s:=by
 refine xR I (fun n s hI=>fb (au (turn n s hI I fun O O h=>h) (fun r s1 h1=> ?_) fun O O x=>x)) n h;cases r with
 |none=>exact h1
 |some v=>
  refine fb (au h1 (fun O s2 h2=>fb (au h2 (fun O s3 h3=>fb (au h3 (fun ok s4 h4=> ?_) fun O O x=>x)) fun O O x=>x)) fun O O x=>x);cases ok with
  |false=>exact h4
  |true=>exact fb (au (show ay _ _ _ _ _ _ from h4) (fun O s5 h5=>fb h5) fun O O x=>x)
end
inductive adB (prog:Program) (w:World) (g:Heap) (s:Shared) (ρ:Nat->Addr) (m:MH) (sg:Sg) (env:Env) (Y:Addr->Prop) (D:Addr) (St:Nat->Heap->Prop) (ρ1:Nat->Addr) (n1:Nat) (src:Src) (N:Nat) (tg:MV->SM) (test:av->MM Bool) (ce:av->MM MV) (r:List MV×MH) (j:Nat) (s':Shared):Prop where
 |mk (k:Nat) (mc:av) (ρ2:Nat->Addr) (m2:MH) (ys:List MV) (us:List Value) (ep:Nat) (hj:j=N-k) (hk:k<=N) (B:CB prog w g fo s ρ m sg env Y ρ1 n1 s' ρ2 m2 mc) (st:St k s'.heap) (hD:s'.heap.get? D=some (fP us ep)) (A4:bI ρ2 m2.n s'.heap ys us) (PR:us.length<=k) (e:gY src N tg test ce (N-k) ys mc m2=some r)
section
variable {n:Nat}{sg:Sg}
theorem HN{D:Addr}{X:Addr->Prop}{St:Nat->Heap->Prop}{Md:Nat->Heap->Value->Prop}{it:Value}{N n1:Nat}
  {s s4:Shared}{ρ ρ1:Nat->Addr}{m m1 mz:MH}{vg:av}{zs:List MV}{R:Result->Shared->Prop}(ht:rQ true sg aU tg)(hq:zi n sg ifs test)(he:pw prog w g n sg dy ce)(hA:dj n A)(vl:Jn g s env fun a=>X a\/a=D)(hC:s.heap.get? env.locals=none)(PS:∀a,X a->a≠D)
  (I:kQ prog w g A aU src N it X St Md ρ1 n1)(hN:N<=100000)(B:CB prog w g fo s ρ m sg env (fun a=>X a\/a=D) ρ1 n1 s4 ρ1 m1 vg)(rD:St 0 s4.heap)(hD:s4.heap.get? D=some (fP [] 0))(e:gY src N tg test ce N [] vg m1=some (zs,mz))
  (fin:∀s' ρ' us ep fr,CB prog w g fo s ρ m sg env (fun a=>X a\/a=D) ρ1 n1 s' ρ' mz fr->s'.heap.get? D=some (fP us ep)->bI ρ' mz.n s'.heap zs us->R (.ok .next) s'):
  cQ (model prog w) A (.compLoop (.ListComp dy [⟨aU,iter,ifs,0⟩] sc pos) 0 it (.ref D) env) R s4:=by
 refine HM (adB prog w g s ρ m sg env (fun a=>X a\/a=D) D St ρ1 n1 src N tg test ce (zs,mz)) ?_ (N-0) ⟨0,_,ρ1,m1, [], [],0,rfl,Nat.zero_le _,B,rD,hD,.nil,dU _,e⟩;clear B rD hD e;generalize hY:(fun a=>X a\/a=D)=Y at vl fin ⊢;have E4:∀a,X a->Y a:=fun a h=>hY▸ .inl h;have PT:Y D:=hY▸ .inr rfl;have hY:∀a,Y a->X a\/a=D:=fun a h=>by rw [<- hY] at h;exact h
 intro j s2 J I2 PM;cases J with
 |mk k mc ρ2 m2 ys us ep hj hk B st hD A4 PR e=>
 subst hj;have ex:∀ {k h us ep},St k h->h.get? D=some (fP us ep)->∀a,Y a->∃o,h.get? a=some o/\¬l_ o:=fun st hD a ha=>(hY a ha).elim (I.ex _ _ st a) fun q=>⟨_,q▸hD,iu rfl rfl rfl⟩;have H2:Hid g s2 ρ2 m2 X:=⟨fun a ha=>vl.g a (E4 a ha),fun a ha=>B.qx a (E4 a ha),fun a o ha eo=>by
  obtain⟨o',q1,q2⟩:=I.ex k _ st a ha;exact d9 (q1.symm.trans eo)▸q2⟩
 rcases Nat.lt_or_ge k N with ke|vf
 ·obtain⟨r,hr⟩:∃r,N-k=r+1:=⟨N-k-1,Wx ke⟩;rw [hr] at e ⊢;have CX:N-(k+1)=r:=Wu ke hr;obtain⟨v,Mv,m5,t,m6,⟨hlen,hv,e5⟩,e6,e⟩:=C3 (Wy ke hr) e;refine I.next s2 ρ2 m2 k v _ ke B.ok B.ix B.n hlen hv st H2 fun u s3 k3 EX r3=> ?_;obtain⟨B3,M3⟩:=B.kO vl E4 H2.nO k3;have HO:=k3.h _ _ (fun q=>PS _ q rfl) hD;refine I.quiet (k+1) s3 u _ EX fun s4 k4 xh=> ?_;obtain⟨B4,M4⟩:=B3.kO vl E4 (fun a o ha eo=>by
   obtain⟨o',q1,q2⟩:=I.PK _ _ _ EX a ha;exact d9 (q1.symm.trans eo)▸q2) k4
  have PU:=k4.h _ _ (fun q=>PS _ q rfl) HO;have ys4:=(A4.mono M3).mono M4;refine aj (ht _ _ A _ _ _ _ _ _ _ _ hA.2.2 B4.ok B4.zh (r3.mono M4) _ _ _ e5 _ _ fun s5 ρ5 S5 V5 F5 O=> ?_);have V5:dh (fun a=>a=env.locals) s4 ρ2 m2 s5 ρ5 m5:=V5;obtain⟨B5,k5⟩:=B4.next S5 V5 F5 (fun a o e q=>by rw [q,hC] at e;exact bZ e) (fun a ha q=>vl.own a (.inl q) ha) (ex xh PU);have p_:=I.ve _ _ _ xh fun a o ha=>k5 a o (E4 a ha);have MA:=k5 _ _ PT PU;have ys5:=ys4.mono V5.mono;refine(hq _ _ A _ _ _ _ _ _ hA B5.ok B5.zh).step e6 fun tt s6 ρ6 S6 V6 r6=> ?_;subst r6;obtain⟨B6,k6⟩:=B5.next S6 V6 (B5.zh.dQ V6) (fun O O O q=>q) (fun O O q=>q) (ex p_ MA);have EY:=I.ve _ _ _ p_ fun a o ha=>k6 a o (E4 a ha);have Uz:=k6 _ _ PT MA;have ys6:=ys5.mono V6.mono;cases tt with
  |false=>exact⟨r,gA _,PM _ _ ⟨k+1,Mv,ρ6,m6,ys,us,ep,CX.symm,ke,B6,EY,Uz,ys6,Nat.le_succ_of_le PR,CX.symm▸e⟩⟩
  |true=>
   obtain⟨⟨y,m8⟩,e8,e⟩:=bj e;refine(he A _ _ _ _ _ hA B6.ok B6.zh).step e8 fun u8 s8 ρ8 S8 V8 r8=> ?_;obtain⟨B8,k8⟩:=B6.next S8 V8 (B6.zh.dQ V8) (fun O O O q=>q) (fun O O q=>q) (ex EY Uz);have adD:=I.ve _ _ _ EY fun a o ha=>k8 a o (E4 a ha);have hD8:=k8 _ _ PT Uz;have ys8:=ys6.mono V8.mono;refine aj (wpAny_list_append_plain (items:=us.toArray) (hsz:=by rw [fX,sizeLine_eq];exact WL hN PR ke) ⟨_,hD8⟩ fun h9 Kh hs9=> ?_);obtain⟨ep9,Kh⟩:=Kh;obtain⟨B9,M9⟩:=B8.kO (Z:=fun a=>a=D) (s':= {s8 with heap:=h9}) vl (fun a ha=>ha▸PT) (fun a o ha eo=>by
    rw [ha,hD8] at eo;exact d9 eo▸iu rfl rfl rfl) ⟨fun a o ha eo=>(hs9.2 a ha).trans eo,rfl,rfl⟩
   refine⟨r,gA _,PM _ _ ⟨k+1,Mv,ρ8,m8,ys++ [y],us++ [u8],ep9,CX.symm,ke,B9,I.ve _ _ _ adD (fun a o ha eo=>(hs9.2 a (PS a ha)).trans eo), ?_,((ys8.append (.cons r8 .nil)).mono M9),by rw [ir,List.length_singleton];exact Nat.succ_le_succ PR,CX.symm▸e⟩⟩
   simpa [fP] using Kh
 ·obtain rfl:k=N:=Nat.le_antisymm hk vf;rw [Nat.sub_self] at e ⊢;obtain⟨hlen,q⟩:=CZ e;obtain⟨rfl,rfl⟩:=Prod.mk.inj q;refine I.done s2 ρ2 m2 _ B.ok B.ix B.n hlen st H2 fun s3 k3=> ?_;obtain⟨B3,M3⟩:=B.kO vl E4 H2.nO k3;exact fin s3 ρ2 us ep mc B3 (k3.h _ _ (fun q=>PS _ q rfl) hD) (A4.mono M3)
def C4(prog:Program)(w:World)(g:Heap)(A:Around)(use:Option (Value->Sem Unit))(Q:Value->Shared->Prop)(s:Shared)(ρ:Nat->Addr)(m:MH)(b:MV)(m':MH):Prop:=
 ∀D C s' ρ' mp,OK prog w g s' ρ' m'->dh fo s ρ m s' ρ' m'->a_ ρ' m'.n s'.heap b (.ref D)->s'.heap.Ns C mp->s.heap.get? C=none->g.get? C=none->(∀i,i<m'.n->ρ' i≠C)->qu (model prog w) A cX use Q (.ref D) C (.ok .next) s'
theorem zj{pos':Pos}
  (hc:qy sg sc own cap gs idx=true)(hi:CU prog w g n sg aU iter ci)(ht:rQ true (iT sg sc own cap gs) aU tg)(hq:zi n (iT sg sc own cap gs) ifs test)(he:pw prog w g n (iT sg sc own cap gs) dy ce)
  (hs:∀env x,foldedSetIterable iter env x=pure x)
  {A:Around}{env:Env}{fr:av}{s:Shared}{ρ:Nat->Addr}{m:MH}(hA:dj n A)(S:OK prog w g s ρ m)(F:dw sg env fr g s ρ m.n){b:MV}{m':MH}(e:jg ci own.length idx tg test ce fr m=some (b,m'))
  {use:Option (Value->Sem Unit)}{Q:Value->Shared->Prop}(hK:C4 prog w g A use Q s ρ m b m'):
  ay s cX A (model prog w) Q (comprehension (.ListComp dy [⟨aU,iter,ifs,0⟩] sc pos) sc env pos' (newList []) false (eval iter env) use):=by
 have HB:=hc;simp only [qy,Bool.and_eq_true,beq_iff_eq,List.all_eq_true,bne_iff_ne,Bool.or_eq_true,decide_eq_true_eq,Bool.not_eq_true'] at HB;obtain⟨hk,rT,yD,Mw,_⟩:=HB;obtain⟨cl,Hv,Sy,adG⟩:=CY (env:=env) (scope:=sc) (fun x hx hf=>by
  rcases Mw x hx with q|⟨q1,q2⟩
  ·exact absurd hf q
  ·obtain⟨i,hi⟩:=List.getElem?_of_mem (List.contains_iff_mem.mp q2);obtain⟨c,v,q,_⟩:=F.y9 i x.1 hi q1;exact⟨c,q⟩)
 obtain⟨src,m1,N,zs,mz,e1,e2,hN,e3,q⟩:=E3 e;obtain⟨rfl,rfl⟩:=Prod.mk.inj q;refine uh (gs:= []) rfl (fun x=>hs env x) Hv hk (fun x hx hl=>(yD x hx).resolve_left fun q=>q hl) (hi A _ _ _ _ _ hA S F _ _ e1 N e2 _ fun it s1 ρ1 X St Md S1 V1 hX rD I=> ?_);refine aj (wpAny_newObj_type ?_ (by size_fits));refine aj (wpAny_newFunctionEnv rT (by intro y hy;simp at hy) (fun h4 PW um=> ?_) hk);have HO:(s1.heap.push (fP [] 0)).get? s1.heap.objs.size=some (fP [] 0):=iR _ rfl;have C5:Sub s1.heap (s1.heap.push (fP [] 0)):=fun a o e=>gT _ e;have Ku:=cA s1.heap;generalize s1.heap.objs.size=D at PW um HO Ku ⊢;have HP:(s1.heap.push (fP [] 0)).get? (s1.heap.push (fP [] 0)).objs.size=none:=cA _;generalize (s1.heap.push (fP [] 0))=h3 at PW um HO C5 HP ⊢;generalize h3.objs.size=C at PW um HP ⊢;have HQ:Sub h3 h4:=fun a o e=>um.extBut a o (fun q=>by rw [q,HP] at e;exact bZ e) (gT _ e);have hCD:C≠D:=fun q=>by rw [q,HO] at HP;exact bZ HP.symm
 have UC:s1.heap.get? C=none:=by
  cases q:s1.heap.get? C with
  |none=>rfl
  |some o=>exact bZ (HP.symm.trans (C5 _ _ q))
 have rU:Sub s1.heap h4:=fun a o e=>HQ a o (C5 a o e);have PU:=HQ _ _ HO;clear C5 HQ um HP HO;generalize PX:({s1 with heap:=h4,toks:=s1.toks+([]:List (Str×Value)).length}:Shared)=s4;have hh4:s4.heap=h4:=by rw [<- PX]
 have UD:s4.os=s1.os:=by rw [<- PX]
 have hg4:s4.gens=s1.gens:=by rw [<- PX]
 clear PX;subst hh4;have S4:OK prog w g s4 ρ1 m1:=S1.grow rU;have V4:dh fo s ρ m s4 ρ1 m1:=V1.comp (.grow rU UD hg4);have hDs:s.heap.get? D=none:=V1.old Ku;have E8:s.heap.get? C=none:=V1.old UC;have E2:g.get? C=none:=S.pv E8;have hXn:∀a o,X a->s1.heap.get? a=some o->s4.heap.get? a=some o:=fun a o O e=>rU a o e;have i6:∀ {a b},X a->s1.heap.get? b=none->a≠b:=fun ha hb q=>by
  obtain⟨o,e,_⟩:=I.ex 0 _ rD _ ha;rw [q,hb] at e;exact bZ e
 have F4:=E0 hc (F.dQ V4) S4 Sy adG PW E2 (S1.lD UC);generalize iT sg sc own cap gs=SG at ht hq he F4;have BS:∀a,Own (compEnvC sc cl C env) a->a=C\/∃o,s.heap.get? a=some o:=fun a ha=>ha.imp id fun⟨x,hx⟩=>(F.own a (.inr ⟨x,Sy x a hx⟩)).2.2;have fZ:(compEnvC sc cl C env).locals=C:=rfl;refine(?_:cQ (model prog w) A (.compStart (.ListComp dy [⟨aU,iter,ifs,0⟩] sc pos) 0 it (.ref D) (compEnvC sc cl C env)) (qu (model prog w) A cX use Q (.ref D) (compEnvC sc cl C env).locals) s4);generalize compEnvC sc cl C env=CE at F4 BS fZ ⊢;have UE:∀a,(X a\/a=D)->s.heap.get? a=none:=fun a ha=>ha.elim (fun q=>(hX a q).1) fun q=>q▸hDs;have vl:Jn g s CE fun a=>X a\/a=D:=⟨UE,fun a ha hy=>by
  rcases BS a ha with rfl|⟨o,q⟩
  ·exact hy.elim (fun q=>i6 q UC rfl) hCD
  ·rw [UE a hy] at q;exact bZ q,fun a ha=>S.pv (UE a ha)⟩
 have xh:=I.ve 0 _ _ rD hXn;have loop:cQ (model prog w) A (.compLoop (.ListComp dy [⟨aU,iter,ifs,0⟩] sc pos) 0 it (.ref D) CE) (qu (model prog w) A cX use Q (.ref D) CE.locals) s4:=by
  refine HN ht hq he hA vl (fZ▸E8) (fun a ha=>i6 ha Ku) I hN ⟨S4,V4,fun O O=>rfl,dU _,fun a ha=>ha.elim (fun q=>(hX a q).2) (fun q=>q▸S1.lD Ku),F4⟩ xh PU e3 fun s' ρ' us ep fE B hD A4=> ?_;subst fZ;obtain⟨mp,hmp,_⟩:=B.zh.loc;refine hK D _ _ (eQ ρ' mz.n D) mp (B.ok.new (a:=D) hD (vl.g D (.inr rfl)) (B.qx D (.inr rfl)) fun M=>⟨us,ep,rfl,A4.mono M⟩) (B.dQ.wc hDs) ?_ hmp E8 E2 fun i hi=> ?_
  ·have:=a_.obj (ρ:=eQ ρ' mz.n D) (n:=mz.n+1) (h:=s'.heap) (i:=mz.n) (gA _);rw [el] at this;exact this
  ·change i<mz.n+1 at hi;rcases Nat.lt_succ_iff_lt_or_eq.mp hi with h|rfl
   ·rw [fD h];exact(B.zh.own _ (.inl rfl)).2.1 i h
   ·rw [el];exact hCD.symm
 exact(wa (h0:=loop) (h:=fb (I.self 0 s4 _ xh loop)))
theorem C4.plain{ρ:Nat->Addr}{b:MV}{m':MH}:C4 prog w g A none (lx prog w g fo a_ s ρ m b m') s ρ m b m':=by
 intro D C s' ρ' mp S' V' r' hC C6 E2 Ks;refine⟨mp,hC,fun h' um=> ?_⟩;have UG:∀a o,a=C->s'.heap.get? a=some o->¬l_ o:=fun a o ha eo=>by
  obtain⟨o',es,ep,e,d,_⟩:=hC;rw [ha,e] at eo;exact l_.notDict (d9 eo▸d)
 have H:Hid g s' ρ' m' (fun a=>a=C):=⟨fun a ha=>ha▸E2,fun a ha=>ha▸Ks,UG⟩;have kk:∀a o,¬a=C->s'.heap.get? a=some o->h'.get? a=some o:=fun a o ha eo=>(um.2 a ha).trans eo;exact⟨ρ',S'.kO (s':= {s' with heap:=h'}) H kk,V'.Mu (X:=fun a=>a=C) (fun a ha=>ha▸C6) kk rfl rfl,r'.mono (H.mono (s':= {s' with heap:=h'}) kk)⟩
theorem xi
  (hc:qy sg sc own cap gs idx=true)(hi:CU prog w g n sg aU iter ci)(ht:rQ true (iT sg sc own cap gs) aU tg)(hq:zi n (iT sg sc own cap gs) ifs test)(he:pw prog w g n (iT sg sc own cap gs) dy ce)
  (hs:∀env x,foldedSetIterable iter env x=pure x):pw prog w g n sg (.ListComp dy [⟨aU,iter,ifs,0⟩] sc pos) (jg ci own.length idx tg test ce):=by
 intro A env fr s ρ m hA S F;refine .of fun b m' e=> ?_;rw [eval_ListComp];exact zj hc hi ht hq he hs hA S F e C4.plain
theorem cZ
  (hc:qy sg sc own cap gs idx=true)(hi:EV n sg aU iter ci)(ht:rQ true (iT sg sc own cap gs) aU tg)(hq:zi n (iT sg sc own cap gs) ifs test)(he:cD n (iT sg sc own cap gs) dy ce)
  (hs:∀env x,foldedSetIterable iter env x=pure x):cD n sg (.ListComp dy [⟨aU,iter,ifs,0⟩] sc pos) (jg ci own.length idx tg test ce):=
 fun prog w A g env fr s ρ m hA S F=>xi hc (hi prog w g) ht hq he.toG hs A env fr s ρ m hA S F
theorem E_:
  swapsWith (.ListComp dy gens scope pos) (some (.Name y py)) line env=pure (env.blockKind== .function&&env.kindOf y==some .local&&py.line==pos.line&& !(scope.names.any fun(n,k)=>n==y&&(k== .local||k== .cell))):=rfl
theorem MB(ev:y8 sg env)(hl:sg.nm.lookup y=some .local)(hb:(py.line==pos.line&& !(scope.names.any fun(n,k)=>n==y&&(k== .local||k== .cell)))=true):
  swapsWith (.ListComp dy gens scope pos) (some (.Name y py)) line env=pure true:=by
 have h1:env.blockKind= .function:=by unfold Env.blockKind;rw [ev.kind];rfl
 have hk:env.kindOf y=some .local:=by unfold Env.kindOf;rw [ev.nm];exact hl
 refine E_.trans (congrArg pure ?_);rw [h1,hk];exact hb
theorem qz{adJ:Pos}(i:Nat){x:Str}(hk:sg.ks[i]? =some x)(hl:sg.nm.lookup x=some .local)
  (hb:(py.line==pos.line&& !(sc.names.any fun(n,k)=>n==x&&(k== .local||k== .cell)))=true)
  (hc:qy sg sc own cap gs idx=true)(hi:EV n sg aU iter ci)(ht:rQ true (iT sg sc own cap gs) aU tg)(hq:zi n (iT sg sc own cap gs) ifs test)(he:cD n (iT sg sc own cap gs) dy ce)
  (hs:∀env x,foldedSetIterable iter env x=pure x):fY n sg (.Assign [.Name x py] (.ListComp dy [⟨aU,iter,ifs,0⟩] sc pos) adJ) (SM.use (jg ci own.length idx tg test ce) (SM.put i)):=by
 intro prog w A g env fr s ρ m hA S F;refine .use fun v m' e1=> ?_;rw [exec_Assign_Name_used _ _ _ _ (MB F.ev hl hb)];refine af (bx (af ?_));refine af (au (zj (use:=some (assign (.Name x py) env)) (Q:=fun O s'=>CT prog w g sg env s ρ m .next (fr.set i (some v)) m' .next s') hc (hi _ _ _) ht hq he.toG hs hA S F e1 fun D C s' ρ' mp S' V' r' hC C6 E2 Ks=> ?_) (fun O s' hq=>ax (ax hq)) fun O O e=>e);refine aj (wpAny_assign_Name (nv i S' (F.dQ V') hk r' fun s2 S2 V2 O F2=> ?_));have hCo:¬Own env C:=fun ho=>by
  obtain⟨_,_,o,e⟩:=F.own C ho;rw [C6] at e;cases e
 obtain⟨o,es,ep,eC,dC,rC⟩:=hC;have eC2:=V2.keep C o eC Ks hCo;refine⟨mp,⟨o,es,ep,eC2,dC,rC⟩,fun h' um=> ?_⟩;have UG:∀a o,a=C->s2.heap.get? a=some o->¬l_ o:=fun a o' ha eo=>by
  rw [ha,eC2] at eo;cases eo;exact l_.notDict dC
 have H:Hid g s2 ρ' m' (fun a=>a=C):=⟨fun a ha=>ha▸E2,fun a ha=>ha▸Ks,UG⟩;have kk:∀a o,¬a=C->s2.heap.get? a=some o->h'.get? a=some o:=fun a o ha eo=>(um.2 a ha).trans eo;exact⟨ρ',S2.kO (s':= {s2 with heap:=h'}) H kk,(V'.weak.comp V2).Mu (X:=fun a=>a=C) (fun a ha=>ha▸C6) kk rfl rfl,.next,F2.qx (X:=fun a=>a=C) (fun a ha q=>hCo (q▸ha)) kk (H.mono (s':= {s2 with heap:=h'}) kk)⟩
end
end
section
theorem iw{prog:Program}{w:World}{A:Around}{s:Shared}{R:Result->Shared->Prop}{id:String}{args:Args}{b:Builtin}(fZ:jZ (.builtin id args)=true)(hq:(Code.builtin id args).quiet=true)(hb:entryFor table id=some b)
  (h:ay s (fun e s'=>R (.error e) s') A.in1 (model prog w) (fun O s₁=>ay s₁ (fun e s'=>R (.error e) s') (A.under (.builtin id args)) (model prog w) (fun fin s'=>match fin with| .done f=>R (.ok f) s'| .again c'=>c'.quiet=true/\cQ (model prog w) A c' R s') (b args)) (checkBuiltinCall id args)):cQ (model prog w) A (.call (.builtin id) args) R s:=by
 refine dG rfl ?_;show ay s _ A.in1 _ _ (do checkBuiltinCall id args;again (.builtin id args));refine af (au h (fun O s₁ h₁=>ax (And.intro hq (dG fZ ?_))) fun O O h'=>h');show ay s₁ _ _ _ _ (match entryFor table id with|some b=>b args|none=>unsupported ((withoutEnding? id "#data").getD id));rw [hb];exact h₁
section
variable {prog:Program}{w:World}{A:Around}{K:Frag}{C:Addr}{R:Result->Shared->Prop}{h:Heap}{g:Array GenState}{d:Drawn}{t:Nat}{os:OsState}
theorem MC{rest:List Value}{kw:List (Str×Value)}{init:Value}(Y:Makes (model prog w) h C)(hi:Looks (model prog w) h (typeLookup (.ref C) "__init__") (some init))
  (hb:∀self,Looks (model prog w) h (bindSpecial init self) (init, [self]))(i6:(some init != some (Value.builtin "object.__init__"))=true\/(rest= []/\kw= []))
  (hq:cQ (model prog w) (A.under (.builtin "type.__call__" ⟨.ref C::rest,kw⟩)) (.call init ⟨.ref (h.objs.size+1)::rest,kw⟩) (InitBack (h.objs.size+1) R) ⟨(h.push emptyDict).push (instObj C h.objs.size),g,d,t,os⟩):
  cQ (model prog w) A (.call (.ref C) ⟨rest,kw⟩) R ⟨h,g,d,t,os⟩:=by
 have Y':=Y;obtain⟨⟨oc,od,cd,sl,hC,e1,e2,e4⟩,made,base,self,top,call,typ⟩:=Y;refine dG rfl (aj ?_);show wpAny _ _ (callAny (.ref C) _) _ _ _;refine nd_load hC ?_;show wpAny _ _ (callAny.viaDunder (.ref C) _) _ _ _;unfold callAny.viaDunder;refine aN (call.at ?_);dsimp only;rw [tc_bind];refine aN (cP (aN (cP ?_)));refine cP (a:=Fin.again (.call (.builtin "type.__call__") ⟨.ref C::rest,kw⟩)) (And.intro rfl ?_);refine iw rfl (Code.quiet_builtin _ (by decide +kernel)) entry_typeCall (aj (check_slot tc_kind tc_split typ (tc_args _ _ _) ?_));unfold Builtin.«type.__call__»;have hm:Looks (model prog w) h (mroOf (.ref C)) cd.mro:=((Looks.ld (part:=none) hC).andThen .now).andThen .now;show ay _ _ _ _ _ (mroOf (.ref C) >>= _);refine af (aj (hm.at ?_));simp only [e4,Bool.false_eq_true,if_false];refine af (aj (made.at ?_));dsimp only;refine af (ax ?_);refine af (aK (aj (wpAny_call (new_K Y' hi i6 ?_))));dsimp only;have k:∀b o,h.get? b=some o->((h.push emptyDict).push (instObj C h.objs.size)).get? b=some o:=fun b o e=>gT _ (gT _ e);have hx:((h.push emptyDict).push (instObj C h.objs.size)).get? (h.objs.size+1)=some (instObj C h.objs.size):=by heap_get
 have t1:Looks (model prog w) ((h.push emptyDict).push (instObj C h.objs.size)) (typeOf (.ref (h.objs.size+1))) (.ref C):=(Looks.ld hx).andThen .now;have s1:=self.keeps k;have i1:=hi.keeps k;have b1:=(hb (.ref (h.objs.size+1))).keeps k;have inst:Looks (model prog w) ((h.push emptyDict).push (instObj C h.objs.size)) (isInstance (.ref (h.objs.size+1)) (.ref C)) true:=t1.andThen s1;have spec:Looks (model prog w) ((h.push emptyDict).push (instObj C h.objs.size)) (specialOf (.ref (h.objs.size+1)) "__init__") (some init):=t1.andThen i1;refine af (aj (inst.at ?_));simp only [Bool.not_true,Bool.false_eq_true,if_false];unfold callSpecial?;refine af (aK (af (aj (spec.at ?_))));dsimp only;refine aK (af (aj (b1.at ?_)));dsimp only;refine af (iJ (gB hq fun r s' z=> ?_));rcases r with e|(v|_|_|_) <;> first|exact z|exact z.elim|skip
 obtain⟨rfl,z⟩:=z;exact ax (ax z)
end
end
section
variable {n:Nat}{f:Value}{c:List MV->MM MV}{prog:Program}{w:World}{g:Heap}{A:Around}{s:Shared}{ρ:Nat->Addr}{m:MH}{b:MV}{kd:Str->Option NameKind}{fd:FuncData}{body:List Stmt}
def j6(prog:Program)(w:World)(g:Heap)(A:Around)(c:Code)(r:Option (MV×MH))(s:Shared)(ρ:Nat->Addr)(m:MH):Prop:=match r with
 |none=>True
 |some (b,m')=>cQ (model prog w) A c (fun r s'=>∃v,r= .ok (.ret v)/\lx prog w g fo a_ s ρ m b m' v s') s
def aP(n:Nat)(f:Value)(c:List MV->MM MV):Prop:=
 ∀prog w A g s ρ m xs vs,dj n A->OK prog w g s ρ m->bI ρ m.n s.heap xs vs->j6 prog w g A (.call f ⟨vs, []⟩) (c xs m) s ρ m
def dX(n:Nat)(f:Value)(c:List MV->MM MV):Prop:=
 ∀prog w A g s ρ m xs vs,dj n A->OK prog w g s ρ m->bI ρ m.n s.heap xs vs->Comes a_ s ρ m prog w g A (c xs m) (PySem.call f vs)
theorem dX.less{k:Nat}(h:dX n f c)(hk:n<=k):dX k f c:=fun prog w A g s ρ m xs vs hA=>h prog w A g s ρ m xs vs (hA.less hk)
theorem j6.at{m':MH}{c:Code}{r:Option (MV×MH)}(h:j6 prog w g A c r s ρ m)(e:r=some (b,m')):
  cQ (model prog w) A c (fun r s'=>∃v,r= .ok (.ret v)/\lx prog w g fo a_ s ρ m b m' v s') s:=by rw [e] at h;exact h
theorem aP.fn(h:aP n f c):dX n f c:=fun prog w A g s ρ m xs vs hA S r=> .of fun b m' e=>
 iJ (gB ((h prog w A g s ρ m xs vs hA S r).at e) fun r s' ⟨v,e,q⟩=>by subst e;exact q)
section
variable {prog:Program}{w:World}{g:Heap}{A:Around}{s s':Shared}{ρ ρ':Nat->Addr}{m m':MH}
theorem dX.call{xs:List MV}{vs:List Value}{K:Value->Shared->Prop}(h:dX n f c)(hA:dj n A)(S:OK prog w g s ρ m)(r:bI ρ m.n s.heap xs vs)(e:c xs m=some (b,m'))
  (k:∀v s' ρ',OK prog w g s' ρ' m'->dh fo s ρ m s' ρ' m'->a_ ρ' m'.n s'.heap b v->K v s'):ay s cX A (model prog w) K (PySem.call f vs):=
 (h _ _ A _ _ _ _ _ _ hA S r).step e k
end
theorem xj:∀ {ps:List Str} {us:List Value} {mp:Str->Option Value} {x:Str},x∉ps->bindL kd (ps.zip us) mp x=mp x
 | [],_,_,_,_=>rfl
 |_::_, [],_,_,_=>rfl
 |p::ps,u::us,mp,x,h=>by
  simp only [List.mem_cons,not_or] at h;show bindL kd (ps.zip us) _ x=_;rw [xj h.2]
  split
  ·exact if_neg h.1
  ·rfl
theorem uo:∀ {ps:List Str} {us:List Value} {mp:Str->Option Value} {i:Nat} {x:Str} {u:Value},ps.Nodup->ps[i]? =some x->us[i]? =some u->kd x=some .local->bindL kd (ps.zip us) mp x=some u
 | [],_,_,_,_,_,_,h,_,_=>by simp at h
 |_::_, [],_,_,_,_,_,_,h,_=>by simp at h
 |p::ps,u'::us,mp,0,x,u,nd,h,h',hk=>by
  simp only [List.getElem?_cons_zero,Option.some.injEq] at h h';subst h h';show bindL kd (ps.zip us) _ p=_;rw [xj (List.nodup_cons.mp nd).1,if_pos hk,if_pos rfl]
 |p::ps,u'::us,mp,i+1,x,u,nd,h,h',hk=>by
  simp only [List.getElem?_cons_succ] at h h';show bindL kd (ps.zip us) _ x=_;exact uo (List.nodup_cons.mp nd).2 h h' hk
theorem xk:∀ {ps:List Str} {us:List Value} {mp:Str->Option Value} {x:Str},x∉ps->bindC kd (ps.zip us) mp x=mp x
 | [],_,_,_,_=>rfl
 |_::_, [],_,_,_=>rfl
 |p::ps,u::us,mp,x,h=>by
  simp only [List.mem_cons,not_or] at h;show bindC kd (ps.zip us) _ x=_;rw [xk h.2]
  split
  ·rfl
  ·exact if_neg h.1
theorem uq:∀ {ps:List Str} {us:List Value} {mp:Str->Option Value} {i:Nat} {x:Str} {u:Value},ps.Nodup->ps[i]? =some x->us[i]? =some u->kd x≠some .local->bindC kd (ps.zip us) mp x=some u
 | [],_,_,_,_,_,_,h,_,_=>by simp at h
 |_::_, [],_,_,_,_,_,_,h,_=>by simp at h
 |p::ps,u'::us,mp,0,x,u,nd,h,h',hk=>by
  simp only [List.getElem?_cons_zero,Option.some.injEq] at h h';subst h h';show bindC kd (ps.zip us) _ p=_;rw [xk (List.nodup_cons.mp nd).1,if_neg hk,if_pos rfl]
 |p::ps,u'::us,mp,i+1,x,u,nd,h,h',hk=>by
  simp only [List.getElem?_cons_succ] at h h';show bindC kd (ps.zip us) _ x=_;exact uq (List.nodup_cons.mp nd).2 h h' hk
theorem cellsFrom_some{y:Str}:∀ {names:List (Str×NameKind)} {n:Nat} {acc:List (Str×Addr)},((y,NameKind.cell)∈names\/(acc.lookup y).isSome=true)->((cellsFrom n names acc).lookup y).isSome=true
 | [],n,acc,h=>by
  rcases h with h|h
  ·simp at h
  ·exact h
 |(x,k)::r,n,acc,h=>by
  unfold cellsFrom
  split
  ·rename_i hk;refine cellsFrom_some ?_;rcases h with h|h
   ·rcases List.mem_cons.mp h with q|q
    ·cases q;right;simp [List.lookup_cons]
    ·exact .inl q
   ·right
    rw [List.lookup_cons]
    split
    ·rfl
    ·exact h
  ·rename_i hk;refine cellsFrom_some ?_;rcases h with h|h
   ·rcases List.mem_cons.mp h with q|q
    ·cases q;exact absurd rfl hk
    ·exact .inl q
   ·exact .inr h
theorem rV{α:Type}:∀ {l:List (Str×α)},l.Pairwise (fun x y=>x.2≠y.2)->∀ {x y:Str} {a:α},(x,a)∈l->(y,a)∈l->x=y
 | [],_,_,_,_,h,_=>by simp at h
 |p::l,hp,x,y,a,h1,h2=>by
  rw [List.pairwise_cons] at hp;rcases List.mem_cons.mp h1 with q1|q1 <;> rcases List.mem_cons.mp h2 with q2|q2
  ·rw [<- q1] at q2;cases q2;rfl
  ·exact absurd (by rw [<- q1]) (hp.1 _ q2)
  ·exact absurd (by rw [<- q2]) (hp.1 _ q1)
  ·exact rV hp.2 q1 q2
noncomputable def BU(sg:Sg)(sc:Scope):Bool:=
 sc.kind== .function&&(!sc.isCoroutine&&(!sc.isGenerator&&(sg.ks.all (fun x=>sg.nm.lookup x==some .local||sg.nm.lookup x==some .cell)&&(sg.gs.all (fun x=>sg.nm.lookup x==some .globalImplicit)&&
  (decide sg.ks.Nodup&&(sg.ks.all (fun x=> !(x==("__debug__":Str)))&&sg.gs.all (fun x=> !(x==("__debug__":Str)))))))))
noncomputable def endOf:Option (eH×av×MH)->Option (MV×MH)
 |some (.ret v,_,m)=>some (v,m)
 |some (.next,_,m)=>some (.none,m)
 |_=>none
noncomputable def dc(k:Nat)(dv:List MV)(r:Nat)(c:SM):List MV->MM MV:=fun xs m=>if xs.length<=k/\k<=xs.length+dv.length then endOf (c ((xs++dv.drop (xs.length+dv.length-k)).map some++List.replicate r none) m) else none
theorem j6.endOf{c:Code}{r:Option (eH×av×MH)}
  (key:∀ {b m' fl fE},r=some (fl,fE,m')->(fl= .ret b\/(fl= .next/\b= .none))->cQ (model prog w) A c (fun r s'=>∃v,r= .ok (.ret v)/\lx prog w g fo a_ s ρ m b m' v s') s):j6 prog w g A c (Mine.endOf r) s ρ m:=by
 cases r with
 |none=>exact True.intro
 |some x=>
  obtain⟨fl,fE,m'⟩:=x;cases fl with
  |ret b=>exact key rfl (.inl rfl)
  |next=>exact key rfl (.inr ⟨rfl,rfl⟩)
  |_=>exact True.intro
theorem xl{f:Addr}{o:Obj}{c:SM}{ps rest gs:List Str}{ys:List MV}{us:List Value}{args:Args}
  (ho:s.heap.get? f=some o)(hd:o.data= .func fd)(hb:fd.body= .stmts body)(qn:s.heap.CodeRec fd.code fd.qualname)(zk:fd.globals=mainGlobals)(zl:fd.builtins=builtinsNs)(u4:fd.closure= [])
  (qr:BindsTo s fd args (ps.zip us))(vh:BU ⟨ps++rest,gs,fd.scope.names⟩ fd.scope=true)(hl:ps.length=us.length)(hS:qX n ⟨ps++rest,gs,fd.scope.names⟩ body c)
  (hA:dj (n+1) A)(S:OK prog w g s ρ m)(r:bI ρ m.n s.heap ys us){b:MV}{m':MH}{fl:eH}{fE:av}(e:c (ys.map some++List.replicate rest.length none) m=some (fl,fE,m'))(rW:fl= .ret b\/(fl= .next/\b= .none)):
  cQ (model prog w) A (.call (.ref f) args) (fun r s'=>∃v,r= .ok (.ret v)/\lx prog w g fo a_ s ρ m b m' v s') s:=by
 simp only [BU,Bool.and_eq_true,beq_iff_eq,List.all_eq_true,Bool.not_eq_true',decide_eq_true_eq,Bool.or_eq_true] at vh;obtain⟨hk,Hn,yX,zm,MD,HK,Mx,My⟩:=vh;have rT:∀ {x:Str} {n:Nat},fd.scope.names.lookup x=some .cell->((cellsFrom n fd.scope.names []).lookup x).isSome=true:=fun h=>cellsFrom_some (.inl (lookup_mem h));have UH:∀x∈ps,fd.scope.names.lookup x=some .local\/fd.scope.names.lookup x=some .cell:=fun x hx=>zm x (List.mem_append_left _ hx);refine oO (by have:=hA.1;exact WE this) ho hd S.now.nolimit qn hb qr u4 (fun x hx=> ?_) (fun s₁ C=> ?_) Hn yX hk
 ·rcases UH x.1 (List.of_mem_zip hx).1 with h|h
  ·exact .inl h
  ·exact .inr ⟨h,rT h⟩
 generalize qY:callEnvC fd s.heap.objs.size f=env at C ⊢;have zo:env.scope=fd.scope:=by rw [<- qY];rfl
 have fZ:env.cells=cellsFrom (s.heap.objs.size+1) fd.scope.names []:=by rw [<- qY];rfl
 have hL:env.locals=s.heap.objs.size:=by rw [<- qY];rfl
 have kN:∀x,env.kindOf x=fd.scope.names.lookup x:=fun x=>by unfold Env.kindOf;rw [zo]
 obtain⟨h₁,tk,rX⟩:=C.toInCall.same;have wi:=C.toInCall.keep;have S1:OK prog w g s₁ ρ m:=S.grow wi;have V1:dh fo s ρ m s₁ ρ m:= .grow wi (by rw [rX]) (by rw [rX]);have nS:∀a,Own env a->s.heap.get? a=none:=fun a ha=>by
  rcases ha with rfl|⟨x,hx⟩
  ·rw [hL];exact cA _
  ·have:=C.above x a (lookup_mem hx);rw [hL] at this;cases q:s.heap.get? a with
   |none=>rfl
   |some o=>exact absurd (Heap.lt_size q) (Nat.not_lt.mpr (Nat.le_of_lt this))
 have Fb:ps.Nodup:=(List.nodup_append.mp HK).1;have Fc:∀ {i:Nat} {x:Str},(ps++rest)[i]? =some x->(∃y u,ps[i]? =some x/\ys[i]? =some y/\us[i]? =some u/\a_ ρ m.n s₁.heap y u/\slot (ys.map some++List.replicate rest.length none) i=some y)\/slot (ys.map some++List.replicate rest.length none) i=none:=fun {i x} hi=>by
  have kf:ys.length=us.length:=r.length
  by_cases h:i<ps.length
  ·left
   rw [List.getElem?_append_left h] at hi;have hy:i<ys.length:=by exact WG hl kf h
   obtain⟨u,hu,ru⟩:=r.get (iq hy);refine⟨ys[i],u,hi,iq hy,hu,ru.mono V1.mono, ?_⟩;unfold slot;rw [List.getElem?_append_left (by simpa using hy),List.getElem?_map,List.getElem?_eq_getElem hy];rfl
  ·right
   unfold slot;rw [List.getElem?_append_right (by rw [eW];exact WH hl kf h),List.getElem?_replicate]
   split
   ·rename_i q;split at q <;> first|(cases q;rfl)|cases q
   ·rfl
 have F1:dw ⟨ps++rest,gs,fd.scope.names⟩ env (ys.map some++List.replicate rest.length none) g s₁ ρ m.n:=by
  refine⟨⟨by rw [zo];exact hk,by rw [zo],by rw [<- qY];exact zk,by rw [<- qY];exact zl,zm,MD,HK,Mx,My⟩,⟨_,C.toInCall.ns,fun i x hi C7=> ?_⟩,fun i x hi C7=> ?_,fun a ha=> ?_,fun x y a hx hy=> ?_⟩
  ·rcases Fc hi with⟨y,u,q1,q2,q3,q4,q5⟩|q
   ·rw [q5];exact⟨u,uo Fb q1 q3 ((kN x).trans C7),q4⟩
   ·rw [q];trivial
  ·obtain⟨a,ha⟩:=Option.isSome_iff_exists.mp (rT (n:=s.heap.objs.size+1) C7);rw [<- fZ] at ha;refine⟨a,_,ha,C.cell x a ha, ?_⟩;rcases Fc hi with⟨y,u,q1,q2,q3,q4,q5⟩|q
   ·rw [q5];refine⟨u,uq Fb q1 q3 ?_,q4⟩;rw [kN x];rw [show fd.scope.names.lookup x=some .cell from C7]
    decide
   ·rw [q];trivial
  ·have h0:=nS a ha;refine⟨S.pv h0,S.lD h0, ?_⟩;rcases ha with rfl|⟨x,hx⟩
   ·obtain⟨o,es,ep,q,_⟩:=C.toInCall.ns;exact⟨o,q⟩
   ·obtain⟨o,q,_⟩:=C.cell x a hx;exact⟨o,q⟩
  ·exact rV C.apart (lookup_mem hx) (lookup_mem hy)
 refine fb (au ((hS _ _ (A.deeper env) _ _ _ _ _ _ hA.deeper S1 F1).at e) (fun f' s2 q=> ?_) fun O O x=>x);obtain⟨ρ2,S2,V2,r2,F2⟩:=q;have V:dh fo s ρ m s2 ρ2 m':=V1.trans V2 fun x o e q=>by rw [nS x q] at e;cases e
 rcases rW with rfl|⟨rfl,rfl⟩
 ·cases r2 with
  |ret rv=>exact⟨_,rfl,ρ2,S2,V,rv⟩
 ·obtain rfl:=r2.Mn;exact⟨_,rfl,ρ2,S2,V,.none⟩
theorem aI{f:Addr}{oc:Value}{od:Option Addr}{we:Array (Option Value)}{c:SM}(ps rest gs:List Str)(dv:List MV)(ur:List Value)
  (hf:∀w,(KK w).lookup f=some ⟨oc,od,.func fd,we⟩)(hb:fd.body= .stmts body)(qn:∀w,codeIn (KK w) fd.code fd.qualname=true)(zk:fd.globals=mainGlobals)(zl:fd.builtins=builtinsNs)(u4:fd.closure= [])
  (hdv:∀w ρ n h,(KK w).In h->bI ρ n h dv ur)
  (qr:∀w (s:Shared) us,(KK w).In s.heap->us.length<=ps.length->ps.length<=us.length+ur.length->BindsTo s fd ⟨us, []⟩ (ps.zip (us++ur.drop (us.length+ur.length-ps.length))))
  (vh:BU ⟨ps++rest,gs,fd.scope.names⟩ fd.scope=true)(hS:qX n ⟨ps++rest,gs,fd.scope.names⟩ body c):aP (n+1) (.ref f) (dc ps.length dv rest.length c):=by
 intro prog w A g s ρ m xs vs hA S r;show j6 prog w g A _ (if _ then _ else none) s ρ m
 split
 case isFalse=>exact True.intro
 rename_i hl;have C8:dv.length=ur.length:=(hdv w ρ m.n s.heap S.now.X).length;have hxl:=r.length;have hd:=hdv w ρ m.n s.heap S.now.X;have hr:=r.append (hd.drop (xs.length+dv.length-ps.length));rw [hxl,C8] at hr hl ⊢;have hlen:ps.length=(vs++ur.drop (vs.length+ur.length-ps.length)).length:=by rw [ir,oJ];exact W7 hl
 exact j6.endOf fun e rW=>xl (S.now.X _ _ (hf w)) rfl hb (codeRec_of S.now.X (qn w)) zk zl u4 (qr w s vs S.now.X hl.1 hl.2) vh hlen hS hA S hr e rW
end
section
variable {M:Model}{f:Value}{pos:Pos}{args es:List Expr}{A:Around}{s:Shared}{prog:Program}{w:World}{g:Heap}{ρ:Nat->Addr}{m m':MH}{ca:av->MM (List MV)}{k:Str}{cands:List (Addr×(List MV->MM MV))}{F:List MV->MM MV}{C:Addr}{n:Nat}
def cE(f:Value):Prop:=∀prog w h,(KK w).In h->∃k,(k=Keeper.frame\/k=Keeper.machine\/k=Keeper.boundFrame)/\Looks (model prog w) h (keeperOf f) k
theorem Fd{h:Heap}(hf:f.onHeap=false):Looks M h (keeperOf f) .machine:=by
 refine Looks.of_pure ?_;cases f <;> first|rfl|cases hf
theorem aG(hf:f.onHeap=false):cE f:=fun prog w h O=>⟨.machine,.inr (.inl rfl),Fd hf⟩
theorem BV{a:Addr}(h:∀w,keepIn (KK w) (.ref a)=true):cE (.ref a):=fun prog w hp X=>keeps_K (h w) hp X
def Plain(es:List Expr):Prop:=∀env,starEach es env=es.map fun e=>(false,eval e env)
section
variable {n:Nat}{sg:Sg}
theorem A5{l:List (Sem Value)}:backTo pos (l.map fun t=>(false,t))=l.map fun t=>(false,t):=by
 unfold backTo;rw [List.map_map]
 rfl
theorem Plain.back(h:Plain es)(pos:Pos)(env:Env):backTo pos (starEach es env)=es.map fun e=>(false,eval e env):=by
 rw [h env];have:=A5 (pos:=pos) (l:=es.map fun e=>eval e env);rw [List.map_map] at this;exact this
theorem kg{E:Value->Shared->Prop}{Q:Args->Shared->Prop}(h:ay s E A M (fun vs s'=>Q ⟨vs, []⟩ s') (spliced [])):ay s E A M Q (evalArgs f true [] []):=by
 refine af (au h (fun vs s' h'=> ?_) fun O O x=>x);refine aK ?_;exact af (ax (af (ax (ax h'))))
theorem wj{env:Env}{fr:av}{xs:List MV}{first:List Value}{K:Value->Shared->Prop}
  (ha:nP n sg es ca)(hp:Plain es)(hk:cE f)(hA:dj n A)(S:OK prog w g s ρ m)(F:dw sg env fr g s ρ m.n)(e:ca fr m=some (xs,m'))
  (k:∀vs s' ρ',OK prog w g s' ρ' m'->dh fo s ρ m s' ρ' m'->bI ρ' m'.n s'.heap xs vs->ay s' cX A (model prog w) K (call f (first++vs))):
  ay s cX A (model prog w) K (callWith pos f first (backTo pos (starEach es env)) []):=by
 refine lP (P:=fun h=>(KK w).In h) ?_ (fun h X=>hk prog w h X) ?_
 ·rw [hp.back pos env];simp
 ·have h1:=(ha _ _ A _ _ _ _ _ _ pos hA S F).step e (K:=fun vs s'=>(KK w).In s'.heap/\ay s' cX A (model prog w) K (call f (first++vs))) fun vs s' ρ' S' V' r=>⟨S'.now.X,k vs s' ρ' S' V' r⟩;rw [hp.back pos env] at h1 ⊢;cases es with
  |nil=>exact kg h1
  |cons x es=>exact jF h1
theorem qA{k:Nat}{id:Str}{p:Pos}{cf:List MV->MM MV}(qx:id∈sg.gs)(hv:bF id (.fn f))(hk:cE f)(ha:nP n sg args ca)(hp:Plain args)(hf:dX k f cf)(HT:k<=n):
  cD n sg (.Call (.Name id p) args [] pos) (oG ca cf):=by
 intro prog w A g env fr s ρ m hA S F;refine .bind fun xs m1 e1=> .of fun b m' e2=> ?_;refine iE ((bA (p:=p) qx hv _ _ A _ _ _ _ _ _ hA S F).step (m':=m) rfl fun a s1 ρ1 S1 V1 r1=> ?_);obtain rfl:=r1.rr rfl;refine wj ha hp hk hA S1 (F.dQ V1) e1 fun vs s2 ρ2 S2 V2 r2=> ?_;exact(hf.less HT).call hA S2 r2 e2 fun v s3 ρ3 S3 V3 r3=>⟨ρ3,S3,(V1.comp V2).comp V3,r3⟩
noncomputable def qB(k:Str)(cands:List (Addr×(List MV->MM MV)))(x:MV):MM (List MV->MM MV):=fun m=>x.ij.bind fun i=>(m.ob i).inst?.bind fun C=>(m.ob (i+1)).EP.bind fun fs=>if ly k fs=none then(cands.lookup C).bind fun F=>some (F,m) else none
theorem Fe{x:MV}(e:qB k cands x m=some (F,m')):∃i C fs,x.ij=some i/\m.ob i= .inst C/\m.ob (i+1)= .dP fs/\ly k fs=none/\cands.lookup C=some F/\m'=m:=by
 obtain⟨i,h0,e⟩:=bj e;obtain⟨C,h1,e⟩:=bj e;obtain⟨fs,h2,e⟩:=bj e
 by_cases h3:ly k fs=none
 ·rw [if_pos h3] at e;obtain⟨G,h4,e⟩:=bj e;have e:=Prod.mk.inj (d9 e);exact⟨i,C,fs,h0,MO.instI h1,MO.Mb h2,h3,e.1▸h4,e.2.symm⟩
 ·rw [if_neg h3] at e;exact bZ e
noncomputable def wk(n:Nat)(k:Str)(cands:List (Addr×(List MV->MM MV))):Prop:=∀C F,cands.lookup C=some F->∃f,fT C k f/\cE (.ref f)/\dX n (.ref f) F
theorem wk.nil:wk n k []:=fun C F e=>by simp at e
theorem wk.cons{l:List (Addr×(List MV->MM MV))}{f:Addr}{j:Nat}(hm:fT C k f)(hk:cE (.ref f))(hf:dX j (.ref f) F)(hj:j<=n)(h:wk n k l):wk n k ((C,F)::l):=fun C' F' e=>by
 rw [List.lookup_cons] at e;cases q:C'==C with
 |true=>
  rw [q] at e;cases e;have:=eq_of_beq q;subst this;exact⟨f,hm,hk,hf.less hj⟩
 |false=>rw [q] at e;exact h C' F' e
noncomputable def ME(k:Str)(cands:List (Addr×(List MV->MM MV)))(co:av->MM MV)(ca:av->MM (List MV)):av->MM MV:=fun fr=>MM.bind (co fr) fun x=>MM.bind (qB k cands x) fun F=>MM.bind (ca fr) fun xs=>F (x::xs)
theorem aL{o:Expr}{apos:Pos}{co:av->MM MV}(ho:cD n sg o co)(ha:nP n sg args ca)(hp:Plain args)(hc:wk n k cands)
  (he:∀env,∃pl,eval (.Call (.Attribute o k apos) args [] pos) env=(do
   let ov <- eval o env
   standAt apos.atName
   let(f,first) <- holding [ov] (getMethod ov k pl)
   callWith pos f first (backTo pos (starEach args env)) (backToKw pos (keywordEach [] env)))):
  cD n sg (.Call (.Attribute o k apos) args [] pos) (ME k cands co ca):=by
 intro prog w A g env fr s ρ m hA S F;refine .bind fun x m1 e1=> .bind fun Fn m2 e2=> .bind fun xs m3 e3=> .of fun b m' e=> ?_;obtain⟨pl,he⟩:=he env;refine mv ((ho _ _ A _ _ _ _ _ _ hA S F).step e1 fun a s1 ρ1 S1 V1 r1=> ?_) he;obtain⟨i,C,fs,h0,h1,h2,h3,h4,rfl⟩:=Fe e2;obtain⟨f,hm,CG,hf⟩:=hc C Fn h4;have r0:=r1;obtain⟨hi,rfl⟩:=r1.ik h0
 ·obtain⟨hl,es,ep,hob,R,I⟩:=S1.inst hi h1 h2;have ES:=hm w;simp only [Hz,Bool.and_eq_true,beq_iff_eq] at ES;obtain⟨⟨q1,q2⟩,q3⟩:=ES;refine aj (method_fn S1.now.X I (plainGet_of q1).1 (plainGet_of q1).2 q2 q3 (by show(lookIn k (dictOf es ep)).map _=_;rw [lookIn_dict,R.Mi h3];rfl) ?_);refine wj (first:= [.ref (ρ1 i)]) ha hp CG hA S1 (F.dQ V1) e3 fun vs s2 ρ2 S2 V2 r2=> ?_;exact hf.call hA S2 (.cons (r0.mono V2.mono) r2) e fun v s3 ρ3 S3 V3 r3=>⟨ρ3,S3,(V1.comp V2).comp V3,r3⟩
end
def nc(C f:Addr):Prop:=∀w,makesIn (KK w) C=true/\findIn (KK w) (.ref C) "__init__"=some (some (.ref f))/\typeIn (KK w) (.ref f)=some (.type "function")
theorem xU(A:Around)(C:Addr)(vals:List Value)(kw:List (Str×Value)):(A.under (.builtin "type.__call__" ⟨.ref C::vals,kw⟩)).units=A.units+1:=rfl
theorem dj.under{vals:List Value}{kw:List (Str×Value)}(h:dj (n+1) A):dj n (A.under (.builtin "type.__call__" ⟨.ref C::vals,kw⟩)):=by
 obtain⟨h1,h2,h3⟩:=h;refine⟨?_, ?_,h3⟩
 ·rw [depth_under_kw];exact Rj h1
 ·rw [xU];exact Xu h2
noncomputable def Js(C:Addr)(ci:List MV->MM MV):List MV->MM MV:=fun xs m=>
 (ci (.obj m.n::xs) ((m.new (.inst C)).new (.dP []))).bind fun x=>match x.1 with
 | .none=>some (.obj m.n,x.2)
 |_=>none
theorem Ff(S:OK prog w g s ρ m):
  OK prog w g {s with heap:=(s.heap.push emptyDict).push (instObj C s.heap.objs.size)} (eQ (eQ ρ m.n (s.heap.objs.size+1)) (m.n+1) s.heap.objs.size) ((m.new (.inst C)).new (.dP []))/\
  dh fo s ρ m {s with heap:=(s.heap.push emptyDict).push (instObj C s.heap.objs.size)} (eQ (eQ ρ m.n (s.heap.objs.size+1)) (m.n+1) s.heap.objs.size) ((m.new (.inst C)).new (.dP [])):=by
 have h0:=cA s.heap;have h1:s.heap.get? (s.heap.objs.size+1)=none:=by
  cases q:s.heap.get? (s.heap.objs.size+1) with
  |none=>rfl
  |some o=>exact absurd (Heap.lt_size q) (Nat.not_lt.mpr (Nat.le_succ _))
 have k:Sub s.heap ((s.heap.push emptyDict).push (instObj C s.heap.objs.size)):=fun a o e=>gT _ (gT _ e);have S1:OK prog w g {s with heap:=(s.heap.push emptyDict).push (instObj C s.heap.objs.size)} ρ m:=S.grow k;have V1:dh fo s ρ m {s with heap:=(s.heap.push emptyDict).push (instObj C s.heap.objs.size)} ρ m:= .grow k rfl rfl;have hd:((s.heap.push emptyDict).push (instObj C s.heap.objs.size)).get? s.heap.objs.size=some emptyDict:=gT _ (iR _ rfl);have hi:((s.heap.push emptyDict).push (instObj C s.heap.objs.size)).get? (s.heap.objs.size+1)=some (instObj C s.heap.objs.size):=by
  have:=iR (s.heap.push emptyDict) (o:=instObj C s.heap.objs.size) rfl
  rwa [Heap.size_push] at this
 have hρ:∀i,i<m.n->eQ (eQ ρ m.n (s.heap.objs.size+1)) (m.n+1) s.heap.objs.size i=ρ i:=fun i hi=>by rw [fD (Nat.lt_succ_of_lt hi),fD hi]
 have HU:eQ (eQ ρ m.n (s.heap.objs.size+1)) (m.n+1) s.heap.objs.size m.n=s.heap.objs.size+1:=by rw [fD (gA _),el]
 have Fg:eQ (eQ ρ m.n (s.heap.objs.size+1)) (m.n+1) s.heap.objs.size (m.n+1)=s.heap.objs.size:=el;have V2:dh fo s ρ m {s with heap:=(s.heap.push emptyDict).push (instObj C s.heap.objs.size)} (eQ (eQ ρ m.n (s.heap.objs.size+1)) (m.n+1) s.heap.objs.size) ((m.new (.inst C)).new (.dP [])):=(V1.wc h1).wc h0;have cases3:∀i,i<m.n+1+1->i<m.n\/i=m.n\/i=m.n+1:=fun i hi=>by exact Xv hi
 have n0:=S.lD h0;have n1:=S.lD h1;generalize eQ (eQ ρ m.n (s.heap.objs.size+1)) (m.n+1) s.heap.objs.size=ρ' at hρ HU Fg V2 ⊢;refine⟨⟨S1.base,S1.sub,fun i j pA Fh q=> ?_,fun i pA=> ?_,fun i pA=> ?_⟩,V2⟩
 ·rcases cases3 i pA with a|rfl|rfl <;> rcases cases3 j Fh with b|rfl|rfl
  ·rw [hρ i a,hρ j b] at q;exact S.inj i j a b q
  ·rw [hρ i a,HU] at q;exact absurd q (n1 i a)
  ·rw [hρ i a,Fg] at q;exact absurd q (n0 i a)
  ·rw [hρ j b,HU] at q;exact absurd q.symm (n1 j b)
  ·rfl
  ·rw [HU,Fg] at q;exact absurd q (Nat.succ_ne_self _)
  ·rw [hρ j b,Fg] at q;exact absurd q.symm (n0 j b)
  ·rw [HU,Fg] at q;exact absurd q.symm (Nat.succ_ne_self _)
  ·rfl
 ·rcases cases3 i pA with a|rfl|rfl
  ·rw [hρ i a];exact S.out i a
  ·rw [HU];exact S.pv h1
  ·rw [Fg];exact S.pv h0
 ·show∃o,((s.heap.push emptyDict).push (instObj C s.heap.objs.size)).get? (ρ' i)=some o/\mT prog w ρ' (m.n+1+1) ((s.heap.push emptyDict).push (instObj C s.heap.objs.size)) i (if i=m.n+1 then .dP [] else if i=m.n then .inst C else m.ob i) o;rcases cases3 i pA with a|rfl|rfl
  ·obtain⟨o,x,y⟩:=S1.ob i a;rw [hρ i a,if_neg (by exact Xw a),if_neg (by exact Xx a)];exact⟨o,x,y.mono ⟨hρ,by show m.n<=m.n+1+1;exact Xy,fun O O e O=>e⟩⟩
  ·rw [HU,if_neg (by exact Xz),if_pos rfl];exact⟨_,hi,gA _,by rw [Fg]⟩
  ·rw [Fg,if_pos rfl];exact⟨_,hd, [],0,rfl,.nil⟩
theorem mf{f:Addr}{ci:List MV->MM MV}(M:nc C f)(h:aP n (.ref f) ci):aP (n+1) (.ref C) (Js C ci):=by
 intro prog w A g s ρ m xs vs hA S r;show j6 prog w g A _ (Option.bind _ _) s ρ m;cases e1:ci (.obj m.n::xs) ((m.new (.inst C)).new (.dP [])) with
 |none=>exact True.intro
 |some z=>
 obtain⟨z,m'⟩:=z;cases z <;> try exact True.intro
 obtain⟨PY,PZ,P0⟩:=M w;have X:=S.now.X;obtain⟨S2,V2⟩:=Ff (C:=C) S;obtain⟨h0,gg,d,t,os⟩:=s;refine MC (makes_of X PY) (looks_findIn X PZ) (fun self=>bind_fn X self P0) (.inl rfl) ?_;have ui:a_ (eQ (eQ ρ m.n (h0.objs.size+1)) (m.n+1) h0.objs.size) (m.n+1+1) ((h0.push emptyDict).push (instObj C h0.objs.size)) (.obj m.n) (.ref (h0.objs.size+1)):=by
  have:=a_.obj (ρ:=eQ (eQ ρ m.n (h0.objs.size+1)) (m.n+1) h0.objs.size) (n:=m.n+1+1) (h:=(h0.push emptyDict).push (instObj C h0.objs.size)) (i:=m.n) (by exact Rk);rw [fD (gA _),el] at this;exact this
 refine gB ((h _ _ (A.under (.builtin "type.__call__" ⟨.ref C::vs, []⟩)) _ _ _ _ _ _ hA.under S2 (.cons ui (r.mono V2.mono))).at e1) fun r s' hq=> ?_;obtain⟨v,er,ρ',S',V',q⟩:=hq;subst er;cases q;exact⟨rfl,_,rfl,ρ',S',V2.comp V',ui.mono V'.mono⟩
end
section
variable {p:Addr×List Str×Addr}{k:Str}{P:Addr->Prop}
noncomputable abbrev HV:List (Str×Addr):= [(("Corrupt":Str),51),(("Misused":Str),63),(("Unopened":Str),75),(("number_of":Str),82),(("octets_of":Str),87),(("text_octets":Str),92),(("octets_text":Str),97),(("Sink":Str),142),(("Cursor":Str),192),(("padded":Str),203),(("Node":Str),227),(("Config":Str),254),(("sorts":Str),265),(("number_of_disks":Str),272),(("disk_node":Str),279),(("node_of":Str),284),(("disks_of":Str),291),(("config_of_plans":Str),297),(("all_disks":Str),304),(("put_node":Str),311),(("config_octets":Str),318),(("read_node":Str),323),(("config_of":Str),328),(("Shape":Str),346),(("many_of":Str),357),(("slot_sectors":Str),364),(("config_sectors":Str),371),(("label_sectors":Str),378),(("label_begins":Str),385),(("part_sum":Str),390),(("config_part":Str),397),(("config_in":Str),404),(("put_config":Str),411),(("read_config":Str),418),(("label_octets":Str),425),(("write_labels":Str),432),(("Disk":Str),526),(("found_disks":Str),535),(("_law_cell":Str),542),(("_law_plans":Str),547),(("_law_configs":Str),554),(("_law_harm":Str),561),(("_law_disk":Str),568),(("_law_told":Str),575),(("law":Str),580)]
noncomputable def UI(K:Frag)(L:List (Str×Addr)):Bool:=L.all fun p=>nsIn K mainGlobals p.1==some (some (.ref p.2))&&keepIn K (.ref p.2)
theorem Fi(w:World):UI (KK w) HV=true:=by kernel_rfl!
theorem mi{α:Type}{l:List α}{x:α}(i:Nat)(h:l[i]? =some x):x∈l:=jC h
theorem cI{p:Str×Addr}(h:p∈HV):bF p.1 (.fn (.ref p.2)):=fun w=>⟨.ref p.2,.inl (by
 have a:=List.all_eq_true.mp (Fi w) p h;exact eq_of_beq (Bool.and_eq_true_iff.mp a).1),fun O O O=> .fn _⟩
theorem cF{p:Str×Addr}(h:p∈HV):cE (.ref p.2):=BV fun w=>by
 have a:=List.all_eq_true.mp (Fi w) p h;exact(Bool.and_eq_true_iff.mp a).2
theorem C9:cE (.ref 75):=cF (p:=("Unopened",75)) (mi 2 rfl)
theorem jP:bF "number_of" (.fn (.ref 82)):=cI (p:=("number_of",82)) (mi 3 rfl)
theorem jQ:cE (.ref 82):=cF (p:=("number_of",82)) (mi 3 rfl)
theorem jR:bF "octets_of" (.fn (.ref 87)):=cI (p:=("octets_of",87)) (mi 4 rfl)
theorem jS:cE (.ref 87):=cF (p:=("octets_of",87)) (mi 4 rfl)
theorem xV:bF "text_octets" (.fn (.ref 92)):=cI (p:=("text_octets",92)) (mi 5 rfl)
theorem xW:cE (.ref 92):=cF (p:=("text_octets",92)) (mi 5 rfl)
theorem xX:bF "octets_text" (.fn (.ref 97)):=cI (p:=("octets_text",97)) (mi 6 rfl)
theorem xY:cE (.ref 97):=cF (p:=("octets_text",97)) (mi 6 rfl)
theorem MF:bF "Sink" (.fn (.ref 142)):=cI (p:=("Sink",142)) (mi 7 rfl)
theorem MG:cE (.ref 142):=cF (p:=("Sink",142)) (mi 7 rfl)
theorem HW:bF "Cursor" (.fn (.ref 192)):=cI (p:=("Cursor",192)) (mi 8 rfl)
theorem HX:cE (.ref 192):=cF (p:=("Cursor",192)) (mi 8 rfl)
theorem HY:bF "padded" (.fn (.ref 203)):=cI (p:=("padded",203)) (mi 9 rfl)
theorem HZ:cE (.ref 203):=cF (p:=("padded",203)) (mi 9 rfl)
theorem rY:bF "Node" (.fn (.ref 227)):=cI (p:=("Node",227)) (mi 10 rfl)
theorem rZ:cE (.ref 227):=cF (p:=("Node",227)) (mi 10 rfl)
theorem zp:bF "Config" (.fn (.ref 254)):=cI (p:=("Config",254)) (mi 11 rfl)
theorem zq:cE (.ref 254):=cF (p:=("Config",254)) (mi 11 rfl)
theorem iL:bF "sorts" (.fn (.ref 265)):=cI (p:=("sorts",265)) (mi 12 rfl)
theorem iM:cE (.ref 265):=cF (p:=("sorts",265)) (mi 12 rfl)
theorem tG:bF "number_of_disks" (.fn (.ref 272)):=cI (p:=("number_of_disks",272)) (mi 13 rfl)
theorem tH:cE (.ref 272):=cF (p:=("number_of_disks",272)) (mi 13 rfl)
theorem tV:bF "disk_node" (.fn (.ref 279)):=cI (p:=("disk_node",279)) (mi 14 rfl)
theorem tW:cE (.ref 279):=cF (p:=("disk_node",279)) (mi 14 rfl)
theorem Fj:bF "node_of" (.fn (.ref 284)):=cI (p:=("node_of",284)) (mi 15 rfl)
theorem Fl:cE (.ref 284):=cF (p:=("node_of",284)) (mi 15 rfl)
theorem kR:bF "disks_of" (.fn (.ref 291)):=cI (p:=("disks_of",291)) (mi 16 rfl)
theorem kS:cE (.ref 291):=cF (p:=("disks_of",291)) (mi 16 rfl)
theorem jG:bF "config_of_plans" (.fn (.ref 297)):=cI (p:=("config_of_plans",297)) (mi 17 rfl)
theorem jH:cE (.ref 297):=cF (p:=("config_of_plans",297)) (mi 17 rfl)
theorem A6:bF "all_disks" (.fn (.ref 304)):=cI (p:=("all_disks",304)) (mi 18 rfl)
theorem A7:cE (.ref 304):=cF (p:=("all_disks",304)) (mi 18 rfl)
theorem ng:bF "put_node" (.fn (.ref 311)):=cI (p:=("put_node",311)) (mi 19 rfl)
theorem nh:cE (.ref 311):=cF (p:=("put_node",311)) (mi 19 rfl)
theorem oQ:bF "config_octets" (.fn (.ref 318)):=cI (p:=("config_octets",318)) (mi 20 rfl)
theorem oR:cE (.ref 318):=cF (p:=("config_octets",318)) (mi 20 rfl)
theorem lS:bF "read_node" (.fn (.ref 323)):=cI (p:=("read_node",323)) (mi 21 rfl)
theorem lT:cE (.ref 323):=cF (p:=("read_node",323)) (mi 21 rfl)
theorem pB:bF "config_of" (.fn (.ref 328)):=cI (p:=("config_of",328)) (mi 22 rfl)
theorem pC:cE (.ref 328):=cF (p:=("config_of",328)) (mi 22 rfl)
theorem Kv:bF "Shape" (.fn (.ref 346)):=cI (p:=("Shape",346)) (mi 23 rfl)
theorem Kw:cE (.ref 346):=cF (p:=("Shape",346)) (mi 23 rfl)
theorem xm:bF "many_of" (.fn (.ref 357)):=cI (p:=("many_of",357)) (mi 24 rfl)
theorem xp:cE (.ref 357):=cF (p:=("many_of",357)) (mi 24 rfl)
theorem wm:bF "slot_sectors" (.fn (.ref 364)):=cI (p:=("slot_sectors",364)) (mi 25 rfl)
theorem wo:cE (.ref 364):=cF (p:=("slot_sectors",364)) (mi 25 rfl)
theorem kh:bF "config_sectors" (.fn (.ref 371)):=cI (p:=("config_sectors",371)) (mi 26 rfl)
theorem ki:cE (.ref 371):=cF (p:=("config_sectors",371)) (mi 26 rfl)
theorem vi:bF "label_sectors" (.fn (.ref 378)):=cI (p:=("label_sectors",378)) (mi 27 rfl)
theorem vj:cE (.ref 378):=cF (p:=("label_sectors",378)) (mi 27 rfl)
theorem qa:bF "label_begins" (.fn (.ref 385)):=cI (p:=("label_begins",385)) (mi 28 rfl)
theorem qb:cE (.ref 385):=cF (p:=("label_begins",385)) (mi 28 rfl)
theorem vk:bF "part_sum" (.fn (.ref 390)):=cI (p:=("part_sum",390)) (mi 29 rfl)
theorem vm:cE (.ref 390):=cF (p:=("part_sum",390)) (mi 29 rfl)
theorem xZ:bF "config_part" (.fn (.ref 397)):=cI (p:=("config_part",397)) (mi 30 rfl)
theorem x_:cE (.ref 397):=cF (p:=("config_part",397)) (mi 30 rfl)
theorem A8:bF "config_in" (.fn (.ref 404)):=cI (p:=("config_in",404)) (mi 31 rfl)
theorem A9:cE (.ref 404):=cF (p:=("config_in",404)) (mi 31 rfl)
theorem zr:bF "put_config" (.fn (.ref 411)):=cI (p:=("put_config",411)) (mi 32 rfl)
theorem zt:cE (.ref 411):=cF (p:=("put_config",411)) (mi 32 rfl)
theorem mw:bF "read_config" (.fn (.ref 418)):=cI (p:=("read_config",418)) (mi 33 rfl)
theorem mx:cE (.ref 418):=cF (p:=("read_config",418)) (mi 33 rfl)
theorem wq:bF "label_octets" (.fn (.ref 425)):=cI (p:=("label_octets",425)) (mi 34 rfl)
theorem wt:cE (.ref 425):=cF (p:=("label_octets",425)) (mi 34 rfl)
theorem wu:bF "write_labels" (.fn (.ref 432)):=cI (p:=("write_labels",432)) (mi 35 rfl)
theorem wx:cE (.ref 432):=cF (p:=("write_labels",432)) (mi 35 rfl)
theorem MI:bF "Disk" (.fn (.ref 526)):=cI (p:=("Disk",526)) (mi 36 rfl)
theorem MJ:cE (.ref 526):=cF (p:=("Disk",526)) (mi 36 rfl)
theorem qZ:bF "found_disks" (.fn (.ref 535)):=cI (p:=("found_disks",535)) (mi 37 rfl)
theorem q_:cE (.ref 535):=cF (p:=("found_disks",535)) (mi 37 rfl)
theorem jq:bF "_law_cell" (.fn (.ref 542)):=cI (p:=("_law_cell",542)) (mi 38 rfl)
theorem jr:cE (.ref 542):=cF (p:=("_law_cell",542)) (mi 38 rfl)
theorem pD:bF "_law_plans" (.fn (.ref 547)):=cI (p:=("_law_plans",547)) (mi 39 rfl)
theorem pE:cE (.ref 547):=cF (p:=("_law_plans",547)) (mi 39 rfl)
theorem yb:bF "_law_configs" (.fn (.ref 554)):=cI (p:=("_law_configs",554)) (mi 40 rfl)
theorem yc:cE (.ref 554):=cF (p:=("_law_configs",554)) (mi 40 rfl)
theorem vn:bF "_law_harm" (.fn (.ref 561)):=cI (p:=("_law_harm",561)) (mi 41 rfl)
theorem vo:cE (.ref 561):=cF (p:=("_law_harm",561)) (mi 41 rfl)
theorem C_:bF "_law_disk" (.fn (.ref 568)):=cI (p:=("_law_disk",568)) (mi 42 rfl)
theorem Dc:cE (.ref 568):=cF (p:=("_law_disk",568)) (mi 42 rfl)
theorem Dd:bF "_law_told" (.fn (.ref 575)):=cI (p:=("_law_told",575)) (mi 43 rfl)
theorem De:cE (.ref 575):=cF (p:=("_law_told",575)) (mi 43 rfl)
noncomputable abbrev MK:List (Str×Int×Tok):= [(("MAGIC":Str),1953654117,433),(("VERSION":Str),1,435),(("MOST_PARITY":Str),3,437),(("MOST_CHILDREN":Str),32,439),(("NUMBERS":Str),4294967296,443),(("SUM":Str),8,685),(("LENGTH":Str),4,687),(("GUID":Str),4,766)]
noncomputable def UJ(K:Frag)(L:List (Str×Int×Tok)):Bool:=L.all fun p=>nsIn K mainGlobals p.1==some (some (.int p.2.1 p.2.2))
theorem ML(w:World):UJ (KK w) MK=true:=by kernel_rfl!
theorem oS{p:Str×Int×Tok}(h:p∈MK):bF p.1 (.int p.2.1):=fun w=>⟨.int p.2.1 p.2.2,.inl (eq_of_beq (List.all_eq_true.mp (ML w) p h)),fun O O O=> .int _ _⟩
theorem BW:bF "MAGIC" (.int 1953654117):=oS (p:=("MAGIC",1953654117,433)) (mi 0 rfl)
theorem xq:bF "VERSION" (.int 1):=oS (p:=("VERSION",1,435)) (mi 1 rfl)
theorem j7:bF "MOST_PARITY" (.int 3):=oS (p:=("MOST_PARITY",3,437)) (mi 2 rfl)
theorem vp:bF "MOST_CHILDREN" (.int 32):=oS (p:=("MOST_CHILDREN",32,439)) (mi 3 rfl)
theorem xr:bF "NUMBERS" (.int 4294967296):=oS (p:=("NUMBERS",4294967296,443)) (mi 4 rfl)
theorem qC:bF "SUM" (.int 8):=oS (p:=("SUM",8,685)) (mi 5 rfl)
theorem nT:bF "LENGTH" (.int 4):=oS (p:=("LENGTH",4,687)) (mi 6 rfl)
theorem r_:bF "GUID" (.int 4):=oS (p:=("GUID",4,766)) (mi 7 rfl)
noncomputable abbrev Sz:List Str:= ["len","sum","all","max","min","sorted","ord","chr","isinstance","enumerate","range","bytes","bytearray","list","tuple","set","dict","int","bool"]
noncomputable def adP(K:Frag)(L:List Str):Bool:=L.all fun p=>nsIn K mainGlobals p==some none
theorem P4(w:World):adP (KK w) Sz=true:=by kernel_rfl!
theorem fU{p:Str}{v:Value}(h:p∈Sz)(hb:bootBuiltins p=some v)(hn:p≠"__name__"):bF p (.fn v):=fun w=>⟨v,.inr ⟨by
 have a:=List.all_eq_true.mp (P4 w) p h;exact eq_of_beq a,hb,hn⟩,fun O O O=> .fn _⟩
theorem ey:bF "len" (.fn (.builtin "len")):=fU (mi 0 rfl) PyProof.Rows.Boot.«len» (by decide +kernel)
theorem Df:bF "sum" (.fn (.builtin "sum")):=fU (mi 1 rfl) PyProof.Rows.Boot.«sum» (by decide +kernel)
theorem Dg:bF "all" (.fn (.builtin "all")):=fU (mi 2 rfl) PyProof.Rows.Boot.«all» (by decide +kernel)
theorem Dh:bF "max" (.fn (.builtin "max")):=fU (mi 3 rfl) PyProof.Rows.Boot.«max» (by decide +kernel)
theorem Di:bF "min" (.fn (.builtin "min")):=fU (mi 4 rfl) PyProof.Rows.Boot.«min» (by decide +kernel)
theorem uu:bF "sorted" (.fn (.builtin "sorted")):=fU (mi 5 rfl) PyProof.Rows.Boot.«sorted» (by decide +kernel)
theorem P5:bF "ord" (.fn (.builtin "ord")):=fU (mi 6 rfl) PyProof.Rows.Boot.«ord» (by decide +kernel)
theorem P6:bF "chr" (.fn (.builtin "chr")):=fU (mi 7 rfl) PyProof.Rows.Boot.«chr» (by decide +kernel)
theorem hU:bF "isinstance" (.fn (.builtin "isinstance")):=fU (mi 8 rfl) PyProof.Rows.Boot.«isinstance» (by decide +kernel)
theorem tX:bF "enumerate" (.fn (.type "enumerate")):=fU (mi 9 rfl) PyProof.Rows.Boot.«enumerate» (by decide +kernel)
theorem kA:bF "range" (.fn (.type "range")):=fU (mi 10 rfl) PyProof.Rows.Boot.«range» (by decide +kernel)
theorem js:bF "bytes" (.fn (.type "bytes")):=fU (mi 11 rfl) PyProof.Rows.Boot.«bytes» (by decide +kernel)
theorem tY:bF "bytearray" (.fn (.type "bytearray")):=fU (mi 12 rfl) PyProof.Rows.Boot.«bytearray» (by decide +kernel)
theorem zu:bF "list" (.fn (.type "list")):=fU (mi 13 rfl) PyProof.Rows.Boot.«list» (by decide +kernel)
theorem ny:bF "tuple" (.fn (.type "tuple")):=fU (mi 14 rfl) PyProof.Rows.Boot.«tuple» (by decide +kernel)
theorem P7:bF "set" (.fn (.type "set")):=fU (mi 15 rfl) PyProof.Rows.Boot.«set» (by decide +kernel)
theorem MN:bF "dict" (.fn (.type "dict")):=fU (mi 16 rfl) PyProof.Rows.Boot.«dict» (by decide +kernel)
theorem P8:bF "int" (.fn (.type "int")):=fU (mi 17 rfl) PyProof.Rows.Boot.«int» (by decide +kernel)
theorem Fm:bF "bool" (.fn (.type "bool")):=fU (mi 18 rfl) PyProof.Rows.Boot.«bool» (by decide +kernel)
noncomputable abbrev yH:List Str:= ["octets"]
noncomputable abbrev nz:List Str:= ["octets","at"]
noncomputable abbrev lU:List Str:= ["sort","guid","children","parity"]
noncomputable abbrev iN:List Str:= ["name","guid","tops","edition"]
noncomputable abbrev fF:List Str:= ["sector","slab","record","fan","dnodes","ring","defer","most_record","uber","config","zap"]
noncomputable abbrev iU:List Str:= ["sector","octets","waiting","is_out","reads","writes"]
noncomputable abbrev Jt:List (Addr×List Str×Addr):= [(142,yH,111),(192,nz,161),(227,lU,219),(254,iN,246),(346,fF,343),(526,iU,446)]
noncomputable def adQ(K:Frag)(L:List (Addr×List Str×Addr)):Bool:=L.all fun p=>plainGet K p.1 ""&&hasDictIn K p.1&&findIn K (.ref p.1) "__setattr__"==some (some (.builtin "object.__setattr__"))&&plainOver K p.1&&p.2.1.all (fun k=>findIn K (.ref p.1) k==some none)&&
 makesIn K p.1&&findIn K (.ref p.1) "__init__"==some (some (.ref p.2.2))&&typeIn K (.ref p.2.2)==some (.type "function")
theorem Dj(w:World):adQ (KK w) Jt=true:=by kernel_rfl!
theorem tI{a b:Bool}(h:(a&&b)=true):a=true/\b=true:=Bool.and_eq_true_iff.mp h
theorem dN(h:p∈Jt)(hk:k∈p.2.1):fK p.1 k:=fun w=>
 have b:=tI (tI (tI (tI (List.all_eq_true.mp (Dj w) p h)).1).1).1
 Bool.and_eq_true_iff.mpr ⟨(tI (tI b.1).1).1,by rw [eq_of_beq (List.all_eq_true.mp b.2 k hk)];rfl⟩
theorem de(h:p∈Jt)(hk:k∈p.2.1):fq p.1 k:=fun w=>
 have b:=tI (tI (tI (tI (List.all_eq_true.mp (Dj w) p h)).1).1).1;have c:=tI b.1;have d:=tI c.1
 Bool.and_eq_true_iff.mpr ⟨Bool.and_eq_true_iff.mpr ⟨Bool.and_eq_true_iff.mpr ⟨d.2,c.2⟩,beq_iff_eq.mpr (by delta takerIn;rw [eq_of_beq (List.all_eq_true.mp b.2 k hk)];rfl)⟩,(tI d.1).2⟩
theorem nD(h:p∈Jt):nc p.1 p.2.2:=fun w=>
 have b:=tI (List.all_eq_true.mp (Dj w) p h);have c:=tI b.1
 ⟨(tI c.1).2,eq_of_beq c.2,eq_of_beq b.2⟩
theorem all_nil:∀C,C∈([]:List Addr)->P C:=fun O h=>nomatch h
theorem all_cons{C:Addr}{l:List Addr}(h:P C)(hl:∀C,C∈l->P C):∀D,D∈C::l->P D:=fun D hD=>by
 rcases List.mem_cons.mp hD with rfl|q
 ·exact h
 ·exact hl D q
noncomputable abbrev H0:List (Addr×Str×Addr):= [(142,("number":Str),118),(142,("text":Str),132),(142,("whole":Str),139),(142,("put":Str),125),(192,("left":Str),168),(192,("take":Str),175),(192,("number":Str),182),(192,("text":Str),189),(227,("plain":Str),224),(254,("plain":Str),251),(526,("sectors":Str),453),(526,("want":Str),460),(526,("read":Str),467),(526,("write":Str),474),(526,("put":Str),481),(526,("flush":Str),488),(526,("harm":Str),516)]
noncomputable def P9(K:Frag)(L:List (Addr×Str×Addr)):Bool:=L.all fun p=>Hz K p.1 p.2.1 p.2.2&&keepIn K (.ref p.2.2)
theorem BX(w:World):P9 (KK w) H0=true:=by kernel_rfl!
theorem gZ{p:Addr×Str×Addr}(h:p∈H0):fT p.1 p.2.1 p.2.2:=fun w=>by
 have a:=List.all_eq_true.mp (BX w) p h;exact(Bool.and_eq_true_iff.mp a).1
theorem g_{p:Addr×Str×Addr}(h:p∈H0):cE (.ref p.2.2):=BV fun w=>by
 have a:=List.all_eq_true.mp (BX w) p h;exact(Bool.and_eq_true_iff.mp a).2
theorem MP:nc 142 111:=nD (p:=(142,yH,111)) (mi 0 rfl)
theorem H3:nc 192 161:=nD (p:=(192,nz,161)) (mi 1 rfl)
theorem MQ:nc 227 219:=nD (p:=(227,lU,219)) (mi 2 rfl)
theorem H4:nc 254 246:=nD (p:=(254,iN,246)) (mi 3 rfl)
theorem Kx:nc 346 343:=nD (p:=(346,fF,343)) (mi 4 rfl)
theorem MR:nc 526 446:=nD (p:=(526,iU,446)) (mi 5 rfl)
theorem gM:∀C,C∈([142,192,526]:List Addr)->fK C "octets":=(all_cons (dN (p:=(142,yH,111)) (mi 0 rfl) (mi 0 rfl)) (all_cons (dN (p:=(192,nz,161)) (mi 1 rfl) (mi 0 rfl)) (all_cons (dN (p:=(526,iU,446)) (mi 5 rfl) (mi 1 rfl)) all_nil)))
theorem uv:∀C,C∈([142,192,526]:List Addr)->fq C "octets":=(all_cons (de (p:=(142,yH,111)) (mi 0 rfl) (mi 0 rfl)) (all_cons (de (p:=(192,nz,161)) (mi 1 rfl) (mi 0 rfl)) (all_cons (de (p:=(526,iU,446)) (mi 5 rfl) (mi 1 rfl)) all_nil)))
theorem Dk:∀C,C∈([192]:List Addr)->fK C "at":=(all_cons (dN (p:=(192,nz,161)) (mi 1 rfl) (mi 1 rfl)) all_nil)
theorem MS:∀C,C∈([192]:List Addr)->fq C "at":=(all_cons (de (p:=(192,nz,161)) (mi 1 rfl) (mi 1 rfl)) all_nil)
theorem kT:∀C,C∈([227]:List Addr)->fK C "sort":=(all_cons (dN (p:=(227,lU,219)) (mi 2 rfl) (mi 0 rfl)) all_nil)
theorem MT:∀C,C∈([227]:List Addr)->fq C "sort":=(all_cons (de (p:=(227,lU,219)) (mi 2 rfl) (mi 0 rfl)) all_nil)
theorem fG:∀C,C∈([227,254]:List Addr)->fK C "guid":=(all_cons (dN (p:=(227,lU,219)) (mi 2 rfl) (mi 1 rfl)) (all_cons (dN (p:=(254,iN,246)) (mi 3 rfl) (mi 1 rfl)) all_nil))
theorem Fo:∀C,C∈([227,254]:List Addr)->fq C "guid":=(all_cons (de (p:=(227,lU,219)) (mi 2 rfl) (mi 1 rfl)) (all_cons (de (p:=(254,iN,246)) (mi 3 rfl) (mi 1 rfl)) all_nil))
theorem eM:∀C,C∈([227]:List Addr)->fK C "children":=(all_cons (dN (p:=(227,lU,219)) (mi 2 rfl) (mi 2 rfl)) all_nil)
theorem Dl:∀C,C∈([227]:List Addr)->fq C "children":=(all_cons (de (p:=(227,lU,219)) (mi 2 rfl) (mi 2 rfl)) all_nil)
theorem lG:∀C,C∈([227]:List Addr)->fK C "parity":=(all_cons (dN (p:=(227,lU,219)) (mi 2 rfl) (mi 3 rfl)) all_nil)
theorem H5:∀C,C∈([227]:List Addr)->fq C "parity":=(all_cons (de (p:=(227,lU,219)) (mi 2 rfl) (mi 3 rfl)) all_nil)
theorem zv:∀C,C∈([254]:List Addr)->fK C "name":=(all_cons (dN (p:=(254,iN,246)) (mi 3 rfl) (mi 0 rfl)) all_nil)
theorem MU:∀C,C∈([254]:List Addr)->fq C "name":=(all_cons (de (p:=(254,iN,246)) (mi 3 rfl) (mi 0 rfl)) all_nil)
theorem vq:∀C,C∈([254]:List Addr)->fK C "tops":=(all_cons (dN (p:=(254,iN,246)) (mi 3 rfl) (mi 2 rfl)) all_nil)
theorem MW:∀C,C∈([254]:List Addr)->fq C "tops":=(all_cons (de (p:=(254,iN,246)) (mi 3 rfl) (mi 2 rfl)) all_nil)
theorem kB:∀C,C∈([254]:List Addr)->fK C "edition":=(all_cons (dN (p:=(254,iN,246)) (mi 3 rfl) (mi 3 rfl)) all_nil)
theorem Fp:∀C,C∈([254]:List Addr)->fq C "edition":=(all_cons (de (p:=(254,iN,246)) (mi 3 rfl) (mi 3 rfl)) all_nil)
theorem dR:∀C,C∈([346,526]:List Addr)->fK C "sector":=(all_cons (dN (p:=(346,fF,343)) (mi 4 rfl) (mi 0 rfl)) (all_cons (dN (p:=(526,iU,446)) (mi 5 rfl) (mi 0 rfl)) all_nil))
theorem zw:∀C,C∈([346,526]:List Addr)->fq C "sector":=(all_cons (de (p:=(346,fF,343)) (mi 4 rfl) (mi 0 rfl)) (all_cons (de (p:=(526,iU,446)) (mi 5 rfl) (mi 0 rfl)) all_nil))
theorem MX:∀C,C∈([346]:List Addr)->fq C "slab":=(all_cons (de (p:=(346,fF,343)) (mi 4 rfl) (mi 1 rfl)) all_nil)
theorem H6:∀C,C∈([346]:List Addr)->fq C "record":=(all_cons (de (p:=(346,fF,343)) (mi 4 rfl) (mi 2 rfl)) all_nil)
theorem P_:∀C,C∈([346]:List Addr)->fq C "fan":=(all_cons (de (p:=(346,fF,343)) (mi 4 rfl) (mi 3 rfl)) all_nil)
theorem H7:∀C,C∈([346]:List Addr)->fq C "dnodes":=(all_cons (de (p:=(346,fF,343)) (mi 4 rfl) (mi 4 rfl)) all_nil)
theorem MY:∀C,C∈([346]:List Addr)->fK C "ring":=(all_cons (dN (p:=(346,fF,343)) (mi 4 rfl) (mi 5 rfl)) all_nil)
theorem MZ:∀C,C∈([346]:List Addr)->fq C "ring":=(all_cons (de (p:=(346,fF,343)) (mi 4 rfl) (mi 5 rfl)) all_nil)
theorem Ky:∀C,C∈([346]:List Addr)->fq C "defer":=(all_cons (de (p:=(346,fF,343)) (mi 4 rfl) (mi 6 rfl)) all_nil)
theorem yd:∀C,C∈([346]:List Addr)->fq C "most_record":=(all_cons (de (p:=(346,fF,343)) (mi 4 rfl) (mi 7 rfl)) all_nil)
theorem M0:∀C,C∈([346]:List Addr)->fK C "uber":=(all_cons (dN (p:=(346,fF,343)) (mi 4 rfl) (mi 8 rfl)) all_nil)
theorem M1:∀C,C∈([346]:List Addr)->fq C "uber":=(all_cons (de (p:=(346,fF,343)) (mi 4 rfl) (mi 8 rfl)) all_nil)
theorem H8:∀C,C∈([346]:List Addr)->fK C "config":=(all_cons (dN (p:=(346,fF,343)) (mi 4 rfl) (mi 9 rfl)) all_nil)
theorem H9:∀C,C∈([346]:List Addr)->fq C "config":=(all_cons (de (p:=(346,fF,343)) (mi 4 rfl) (mi 9 rfl)) all_nil)
theorem Qa:∀C,C∈([346]:List Addr)->fq C "zap":=(all_cons (de (p:=(346,fF,343)) (mi 4 rfl) (mi 10 rfl)) all_nil)
theorem sa:∀C,C∈([526]:List Addr)->fK C "waiting":=(all_cons (dN (p:=(526,iU,446)) (mi 5 rfl) (mi 2 rfl)) all_nil)
theorem xt:∀C,C∈([526]:List Addr)->fq C "waiting":=(all_cons (de (p:=(526,iU,446)) (mi 5 rfl) (mi 2 rfl)) all_nil)
theorem qD:∀C,C∈([526]:List Addr)->fK C "is_out":=(all_cons (dN (p:=(526,iU,446)) (mi 5 rfl) (mi 3 rfl)) all_nil)
theorem zx:∀C,C∈([526]:List Addr)->fq C "is_out":=(all_cons (de (p:=(526,iU,446)) (mi 5 rfl) (mi 3 rfl)) all_nil)
theorem Kz:∀C,C∈([526]:List Addr)->fK C "reads":=(all_cons (dN (p:=(526,iU,446)) (mi 5 rfl) (mi 4 rfl)) all_nil)
theorem BY:∀C,C∈([526]:List Addr)->fq C "reads":=(all_cons (de (p:=(526,iU,446)) (mi 5 rfl) (mi 4 rfl)) all_nil)
theorem H_:∀C,C∈([526]:List Addr)->fK C "writes":=(all_cons (dN (p:=(526,iU,446)) (mi 5 rfl) (mi 5 rfl)) all_nil)
theorem zy:∀C,C∈([526]:List Addr)->fq C "writes":=(all_cons (de (p:=(526,iU,446)) (mi 5 rfl) (mi 5 rfl)) all_nil)
theorem b_:fT 142 "number" 118:=gZ (p:=(142,"number",118)) (mi 0 rfl)
theorem cc:cE (.ref 118):=g_ (p:=(142,"number",118)) (mi 0 rfl)
theorem A_:fT 142 "text" 132:=gZ (p:=(142,"text",132)) (mi 1 rfl)
theorem Ba:cE (.ref 132):=g_ (p:=(142,"text",132)) (mi 1 rfl)
theorem zz:fT 142 "whole" 139:=gZ (p:=(142,"whole",139)) (mi 2 rfl)
theorem zA:cE (.ref 139):=g_ (p:=(142,"whole",139)) (mi 2 rfl)
theorem ye:fT 192 "left" 168:=gZ (p:=(192,"left",168)) (mi 4 rfl)
theorem yf:cE (.ref 168):=g_ (p:=(192,"left",168)) (mi 4 rfl)
theorem rf:fT 192 "take" 175:=gZ (p:=(192,"take",175)) (mi 5 rfl)
theorem rg:cE (.ref 175):=g_ (p:=(192,"take",175)) (mi 5 rfl)
theorem bV:fT 192 "number" 182:=gZ (p:=(192,"number",182)) (mi 6 rfl)
theorem bW:cE (.ref 182):=g_ (p:=(192,"number",182)) (mi 6 rfl)
theorem yg:fT 192 "text" 189:=gZ (p:=(192,"text",189)) (mi 7 rfl)
theorem yh:cE (.ref 189):=g_ (p:=(192,"text",189)) (mi 7 rfl)
theorem kW:fT 227 "plain" 224:=gZ (p:=(227,"plain",224)) (mi 8 rfl)
theorem kX:cE (.ref 224):=g_ (p:=(227,"plain",224)) (mi 8 rfl)
theorem jt:fT 254 "plain" 251:=gZ (p:=(254,"plain",251)) (mi 9 rfl)
theorem ju:cE (.ref 251):=g_ (p:=(254,"plain",251)) (mi 9 rfl)
theorem qc:fT 526 "sectors" 453:=gZ (p:=(526,"sectors",453)) (mi 10 rfl)
theorem qd:cE (.ref 453):=g_ (p:=(526,"sectors",453)) (mi 10 rfl)
theorem pF:fT 526 "want" 460:=gZ (p:=(526,"want",460)) (mi 11 rfl)
theorem pG:cE (.ref 460):=g_ (p:=(526,"want",460)) (mi 11 rfl)
theorem Bb:fT 526 "read" 467:=gZ (p:=(526,"read",467)) (mi 12 rfl)
theorem Bc:cE (.ref 467):=g_ (p:=(526,"read",467)) (mi 12 rfl)
theorem zB:fT 526 "write" 474:=gZ (p:=(526,"write",474)) (mi 13 rfl)
theorem zC:cE (.ref 474):=g_ (p:=(526,"write",474)) (mi 13 rfl)
theorem Dm:fT 526 "put" 481:=gZ (p:=(526,"put",481)) (mi 14 rfl)
theorem Dn:cE (.ref 481):=g_ (p:=(526,"put",481)) (mi 14 rfl)
theorem zD:fT 526 "flush" 488:=gZ (p:=(526,"flush",488)) (mi 15 rfl)
theorem zE:cE (.ref 488):=g_ (p:=(526,"flush",488)) (mi 15 rfl)
theorem Bd:fT 526 "harm" 516:=gZ (p:=(526,"harm",516)) (mi 16 rfl)
theorem Be:cE (.ref 516):=g_ (p:=(526,"harm",516)) (mi 16 rfl)
end
section
section
variable {prog:Program}{w:World}{g:Heap}{A:Around}{s s':Shared}{ρ ρ':Nat->Addr}{m m':MH}
theorem gN{T:Addr->Prop}{b:MV}{v:Value}{t:Nat}(S:OK prog w g s ρ m)(r:a_ ρ m.n s.heap b v):lx prog w g T a_ s ρ m b m v {s with toks:=t}:=
 ⟨ρ,S.grow (s':= {s with toks:=t}) (fun O O e=>e),.grow (s':= {s with toks:=t}) (fun O O e=>e) rfl rfl,r⟩
end
theorem Fq{a b:Int}(h:b.natAbs<2 ^ 64):Builtin.divisionGoesByPylong a b=false:=by
 unfold Builtin.divisionGoesByPylong;have:¬((if(b==0)=true then 0 else b.natAbs.log2/30+1)>300):=by
  split
  ·exact acy
  ·have h2:b.natAbs.log2<64:=by
    by_cases h0:b.natAbs=0
    ·rw [h0];decide
    ·exact(Nat.log2_lt (k:=64) h0).mpr h
   exact acz h2
 dsimp only;rw [decide_eq_false this,Bool.false_and]
noncomputable def qE(p:Int->Int->Prop)[∀a b,Decidable (p a b)](f:Int->Int->Int)(x y:MV):MM MV:=fun m=>x.int?.bind fun a=>y.int?.bind fun b=>if p a b then some (.int (f a b),m) else none
theorem mh{op:Operator}{p:Int->Int->Prop}[∀a b,Decidable (p a b)]{f:Int->Int->Int}
  (h:∀(prog:Program) (w:World) (A:Around) (s:Shared) (a b:Int) (t u:Tok) (Q:Value->Shared->Prop) (E:Value->Shared->Prop),p a b->(∀k tk,Q (.int (f a b) k) {s with toks:=tk})->wpAny (model prog w) A (binaryOp op (.int a t) (.int b u)) Q E s):nQ op (qE p f):=by
 intro prog w A g s ρ m x y a b hA S rx ry;exact .opt fun i hi=> .opt fun j hj=> .ite fun hp=>by
  obtain⟨t,rfl⟩:=rx.iF hi;obtain⟨u,rfl⟩:=ry.iF hj;exact aj (h _ _ _ _ _ _ _ _ _ _ hp fun k tk=>gN S (.int _ _))
noncomputable abbrev Ju:=qE (fun O O=>True) fun a b=>a-b
noncomputable abbrev BZ:=qE (fun a b=>a.natAbs<2 ^ 64\/b.natAbs<2 ^ 64) fun a b=>a*b
noncomputable abbrev Dp:=qE (fun a b=>b≠0/\b.natAbs<2 ^ 64) fun a b=>a.fdiv b
noncomputable abbrev Jv:=qE (fun a b=>b≠0) fun a b=>a.fmod b
noncomputable abbrev M5:=qE (fun a b=>0<=b/\b<=1000000/\a.natAbs<2 ^ 64) fun a b=>a*2 ^ b.toNat
noncomputable abbrev M6:=qE (fun a b=>0<=b) fun a b=>a.fdiv (2 ^ b.toNat)
noncomputable abbrev SA:=qE (fun O O=>True) fun a b=>Builtin.bitAnd a b
noncomputable abbrev Jw:=qE (fun a b=>0<=b/\b<=1000000/\a.natAbs<2 ^ 64) fun a b=>a ^ b.toNat
theorem oT:nQ .Sub Ju:=mh fun prog w A s a b t u Q E hp q=>sub_int (q s.toks (s.toks+1))
theorem gD:nQ .Mult BZ:=mh fun prog w A s a b t u Q E hp q=>mul_int (q s.toks (s.toks+1)) (hp.elim (fun h=> .of_left (intBits_le_64 (by exact Sa h) (by exact Sb h))) fun h=> .of_right (intBits_le_64 (by exact Sa h) (by exact Sb h)))
theorem fc:nQ .FloorDiv Dp:=mh fun prog w A s a b t u Q E hp q=>floordiv_int hp.1 (q s.toks (s.toks+1)) (.inl (Fq hp.2))
theorem dW:nQ .Mod Jv:=mh fun prog w A s a b t u Q E hp q=>mod_int' hp (q s.toks (s.toks+1))
theorem Qb:nQ .LShift M5:=mh fun prog w A s a b t u Q E hp q=>lshift_int_small hp.1 hp.2.1 hp.2.2 (q s.toks (s.toks+1))
theorem Qc:nQ .RShift M6:=mh fun prog w A s a b t u Q E hp q=>rshift_int hp (q s.toks (s.toks+1))
theorem Qd:nQ .BitAnd SA:=mh fun prog w A s a b t u Q E hp q=>and_int (q s.toks (s.toks+1))
theorem Dq:nQ .Pow Jw:=mh fun prog w A s a b t u Q E hp q=>pow_int_small hp.1 hp.2.1 hp.2.2 (q s.toks (s.toks+1))
noncomputable def kY(f:Int->Int->Bool)(x y:MV):MM Bool:=fun m=>x.int?.bind fun a=>y.int?.bind fun b=>some (f a b,m)
theorem vr{op:CmpOp}{f:Int->Int->Bool}(h:∀(prog:Program) (w:World) (A:Around) (s:Shared) (a b:Int) (t u:Tok) (Q:Value->Shared->Prop) (E:Value->Shared->Prop),Q (.bool (f a b)) s->wpAny (model prog w) A (compareOp op (.int a t) (.int b u)) Q E s):je op (kY f):=by
 intro prog w A g s ρ m x y a b hA S rx ry;exact .opt fun i hi=> .opt fun j hj=>by
  obtain⟨t,rfl⟩:=rx.iF hi;obtain⟨u,rfl⟩:=ry.iF hj;exact aj (h _ _ _ _ _ _ _ _ _ _ ⟨ρ,S,.refl,rfl⟩)
theorem fS:je .Lt (kY fun a b=>decide (a<b)):=vr fun prog w A s a b t u Q E q=>lt_int q
theorem fR:je .LtE (kY fun a b=>decide (a<=b)):=vr fun prog w A s a b t u Q E q=>le_int q
theorem kZ:je .Gt (kY fun a b=>decide (a>b)):=vr fun prog w A s a b t u Q E q=>gt_int q
theorem Ia:je .GtE (kY fun a b=>decide (a>=b)):=vr fun prog w A s a b t u Q E q=>ge_int q
end
section
open Builtin
set_option pp.deepTerms false
set_option pp.deepTerms.threshold 6
variable {b:Array UInt8}{t:Tok}{Q:PySem.Fin->Shared->Prop}{x:Value}{a:Addr}{o:Obj}{id:String}{k:Nat}
section
variable {prog:Program}{w:World}{A:Around}{E:Value->Shared->Prop}{s:Shared}
theorem sb:typeLookup (.type "bytes") "__bytes__"=pure (some (.builtin "bytes.__bytes__")):=by rw [typeLookup_type,builtinLookup_eq_fast];kernel_rfl
theorem wz(h:Q (.done (.ret (.bytes b t))) s):
  wpAny (model prog w) A (Builtin.«bytes.__new__» ⟨[.type "bytes",.bytes b t], []⟩) Q E s:=by
 refine aN (wpAny_of_eq (a:=true) rfl ?_);refine bm_if_false rfl ?_;refine aN (wpAny_of_eq PySem.F.bm_sub ?_);refine bm_if_false rfl ?_;refine aN (wpAny_of_eq (PySem.F.bm_bind _) ?_);refine aN (wpAny_of_eq (a:=()) rfl ?_);refine aN (wpAny_of_eq (a:=()) rfl ?_);refine bm_if_false rfl ?_;refine aN (wpAny_specialOf (PySem.W.typeIs_bytes _ _ _) sb ?_);refine aN (wpAny_rule ?_);refine aN (wpAny_typeOf (PySem.W.typeIs_bytes _ _ _) ?_);refine bm_if_true rfl ?_;exact cP h
theorem sd{Q:Value->Shared->Prop}(h:∀A E,wpAny (model prog w) A (Builtin.«bytes.__new__» ⟨[.type "bytes",x], []⟩) (fun fin s'=>∃b t,fin= .done (.ret (.bytes b t))/\Q (.bytes b t) s') E s):
  wpAny (model prog w) A (call (.type "bytes") [x]) Q E s:=by
 refine callType_codes (Q₁:=fun obj s₁=>s₁.TypeIs obj "bytes"/\Q obj s₁) PySem.F.bm_called (PySem.F.bm_typeCall _) PySem.F.entry_object_init ?_ fun obj s₁ h₁=> ?_
 ·refine codeAny_of_tree ?_;refine aN (wpAny_of_eq (PySem.F.bm_newCall _) (cP ⟨plainId_quiet PySem.F.bm_plain _,codeAny_builtin PySem.F.bm_entry ?_⟩));refine wpAny_mono (h _ _) (fun fin s' q=> ?_) fun O O e=>e;obtain⟨b,t,rfl,q⟩:=q;exact⟨PySem.W.typeIs_bytes _ _ _,q⟩
 ·exact⟨h₁.1,PySem.F.args_object_init_2 obj _,object_init_meets PySem.F.bm_called.init.lookup PySem.F.bm_called.made rfl prog w A.in1 _ s₁ ⟨h₁.1,rfl,h₁.2⟩⟩
theorem vt:typeLookup (.type "int") "__bytes__"=pure none:=by rw [typeLookup_type,builtinLookup_eq_fast];kernel_rfl
theorem iV:typeLookup (.type "int") "__index__"=pure (some (.builtin "int.__index__")):=by rw [typeLookup_type,builtinLookup_eq_fast];kernel_rfl
theorem tZ:isType (.type "bytes")=pure true:=rfl
theorem zF{n:Nat}(hx:x=Value.int (n:Int) t)(hn:n<=100000)(h:∀t' k,Q (.done (.ret (.bytes (Array.replicate n 0) t'))) {s with toks:=k}):
  wpAny (model prog w) A (Builtin.«bytes.__new__» ⟨[.type "bytes",x], []⟩) Q E s:=by
 have hT:s.TypeIs x "int":=by rw [hx];exact typeIs_int _ _ _
 have hI:asIndex x=pure (n:Int):=by rw [hx];rfl
 have hS:asStr? x=pure none:=by rw [hx];rfl
 refine aN (wpAny_of_eq tZ ?_);refine bm_if_false rfl ?_;refine aN (wpAny_of_eq PySem.F.bm_sub ?_);refine bm_if_false rfl ?_;refine aN (wpAny_of_eq (PySem.F.bm_bind _) ?_);refine aN (wpAny_of_eq (a:=()) rfl ?_);refine aN (wpAny_of_eq (a:=()) rfl ?_);refine bm_if_false rfl ?_;refine aN (wpAny_specialOf hT vt ?_);dsimp only;rw [hS,hI];refine aN (aN (cP (cP ?_)));refine bm_if_false rfl ?_;refine aN (wpAny_specialOf hT iV ?_);rw [if_neg (show¬(Option.isNone (some (Value.builtin "int.__index__"))=true) from Bool.false_ne_true)];have ha:(pure (n:Int):Sem Int).attempt=pure (Except.ok (n:Int)):=rfl;rw [ha,LawfulMonad.pure_bind];have hf:(!Bytes.fitsIndex (n:Int))=false:=by
  unfold Bytes.fitsIndex;rw [decide_eq_true (show -(2 ^ 63:Int)<=(n:Int) by exact Ry),decide_eq_true (show(n:Int)<2 ^ 63 by exact Pq hn)];rfl
 have h34:¬((n:Int)>2 ^ 63-34):=by exact aah hn
 have h0:¬((n:Int)<0):=by exact TO
 have hL:¬(Bytes.tooLong (n:Int).toNat=true):=by
  unfold Bytes.tooLong;rw [decide_eq_true_eq,sizeLine_eq];exact Rz hn
 dsimp only;rw [if_neg (by rw [hf];exact Bool.false_ne_true),if_neg h0,if_neg h34,if_neg hL];refine aN (wpAny_rule ?_);refine aN (wpAny_mkBytes ?_ (by rw [Array.size_replicate,sizeLine_eq];exact aai hn));have h':=h s.toks;rw [show(n:Int).toNat=n by exact aaj];exact cP (h' _)
theorem wA:typeLookup (.type "bytearray") "__bytes__"=pure none:=by rw [typeLookup_type,builtinLookup_eq_fast];kernel_rfl
theorem wB:typeLookup (.type "bytearray") "__index__"=pure none:=by rw [typeLookup_type,builtinLookup_eq_fast];kernel_rfl
theorem k9:typeLookup (.type "bytearray") "__buffer__"=pure (some (.builtin "bytearray.__buffer__")):=by rw [typeLookup_type,builtinLookup_eq_fast];kernel_rfl
theorem nU:typeLookup (.type "bytearray") "__release_buffer__"=pure (some (.builtin "bytearray.__release_buffer__")):=by rw [typeLookup_type,builtinLookup_eq_fast];kernel_rfl
theorem s_:isSubtype (.type "bytearray") (.type "bytearray")=pure true:=by rw [isSubtype_type];kernel_rfl
theorem wC{name:String}{Q:Bool->Shared->Prop}(ho:s.heap.get? a=some o)(hc:o.cls= .type "bytearray")(hl:typeLookup (.type "bytearray") (Str.ofString name)=pure (some (.builtin id)))
  (h1:(!id.endsWith ("."++name))=false)(h2:id.dropRight (name.length+1)="bytearray")(h:Q true s):wpAny (model prog w) A (Bytes.slotIsOwn (.ref a) name) Q E s:=by
 have hT:s.TypeIs (.ref a) "bytearray":=⟨o,ho,hc⟩;refine aN (wpAny_specialOf hT hl ?_);refine bm_if_false h1 ?_;rw [h2];exact wpAny_isInstance hT s_ h
theorem UK:(!("bytearray.__buffer__":String).endsWith ("."++"__buffer__"))=false:=by decide +kernel
theorem M7:(!("bytearray.__release_buffer__":String).endsWith ("."++"__release_buffer__"))=false:=by decide +kernel
theorem UL:("bytearray.__buffer__":String).dropRight (("__buffer__":String).length+1)="bytearray":=by decide +kernel
theorem M8:("bytearray.__release_buffer__":String).dropRight (("__release_buffer__":String).length+1)="bytearray":=by decide +kernel
theorem il{Q:Array UInt8->Shared->Prop}(ho:s.heap.get? a=some o)(hd:o.data= .bytearray b k)(h:Q b s):wpAny (model prog w) A (Bytes.payload (.ref a)) Q E s:=by
 refine aN (aN (wpAny_load ho ?_));rw [hd];exact cP (cP h)
theorem Ib{f:Bool}{Q:Option (Array UInt8)->Shared->Prop}(ho:s.heap.get? a=some o)(hc:o.cls= .type "bytearray")(hd:o.data= .bytearray b k)(h:Q (some b) s):
  wpAny (model prog w) A (Bytes.buffer? id (.ref a) f) Q E s:=by
 have hT:s.TypeIs (.ref a) "bytearray":=⟨o,ho,hc⟩;refine aN (wpAny_specialOf hT k9 ?_);refine aN (wC ho hc k9 UK UL ?_);refine bm_if_false rfl ?_;refine aN (wpAny_specialOf hT k9 ?_);refine aN ?_;refine aN (wC ho hc nU M7 M8 (cP ?_));refine bm_if_false rfl ?_;exact aN (il ho hd (cP h))
theorem Bf(ho:s.heap.get? a=some o)(hc:o.cls= .type "bytearray")(hd:o.data= .bytearray b k)(hz:b.size<=100000)(h:∀t' k,Q (.done (.ret (.bytes b t'))) {s with toks:=k}):
  wpAny (model prog w) A (Builtin.«bytes.__new__» ⟨[.type "bytes",.ref a], []⟩) Q E s:=by
 have hT:s.TypeIs (.ref a) "bytearray":=⟨o,ho,hc⟩;refine aN (wpAny_of_eq tZ ?_);refine bm_if_false rfl ?_;refine aN (wpAny_of_eq PySem.F.bm_sub ?_);refine bm_if_false rfl ?_;refine aN (wpAny_of_eq (PySem.F.bm_bind _) ?_);refine aN (wpAny_of_eq (a:=()) rfl ?_);refine aN (wpAny_of_eq (a:=()) rfl ?_);refine bm_if_false rfl ?_;refine aN (wpAny_specialOf hT wA ?_);refine aN (aN ?_);refine aN (wpAny_load ho ?_);rw [hd];refine cP (cP ?_);refine bm_if_false rfl ?_;refine aN (wpAny_specialOf hT wB ?_);refine bm_if_true rfl ?_
 first
  |show wpAny _ _ (Builtin.Bytes.buffer? "bytes.__new__" (.ref a) true >>= _) _ _ _
  |(refine aN ?_;show wpAny _ _ (Builtin.Bytes.buffer? "bytes.__new__" (.ref a) true >>= _) _ _ _)
 refine aN (Ib ho hc hd ?_);refine aN (wpAny_rule ?_);refine aN (wpAny_mkBytes ?_ (by rw [sizeLine_eq];exact Hb hz))
 first|exact cP (cP (h _ _))|exact aN (cP (cP (h _ _)))|exact cP (h _ _)
end
namespace BA
theorem mro:mroOf (.type "bytearray")=pure [.type "bytearray",.type "object"]:=by rw [mroOf_type];kernel_rfl
theorem Fs:typeLookup (.type "bytearray") "__new__"=pure (some (.builtin "bytearray.__new__")):=by rw [typeLookup_type,builtinLookup_eq_fast];kernel_rfl
theorem Ic:Slot "bytearray" "__init__" "bytearray.__init__":=
 .of (owner:="bytearray") (n:="__init__") (by rw [typeLookup_type,builtinLookup_eq_fast];kernel_rfl) (by decide +kernel) (by decide +kernel) (by decide +kernel)
  (by first|exact .inl (by decide +kernel)|exact .inr (by decide +kernel)) (by rw [isSubtype_type];kernel_rfl)
theorem called:TypeCalled "bytearray" "bytearray.__new__" "bytearray.__init__":=
 ⟨by decide +kernel,by decide +kernel,⟨_,_,mro⟩,madeBy_type mro Fs (by decide +kernel),by decide +kernel,by rw [isSubtype_type];kernel_rfl,Ic⟩
theorem Ie:checkTypeCall "bytearray" ⟨[], []⟩=pure ():=by kernel_rfl
theorem zH(a:Value):checkTypeCall "bytearray" ⟨[a], []⟩=pure ():=by kernel_rfl
theorem KA:checkBuiltinCall "bytearray.__new__" ⟨[.type "bytearray"], []⟩=pure ():=by kernel_rfl
theorem B0(a:Value):checkBuiltinCall "bytearray.__new__" ⟨[.type "bytearray",a], []⟩=pure ():=by kernel_rfl
theorem Ig:entryFor table "bytearray.__new__"=some Builtin.«list.__new__»:=
 entryFor_alias (id':="list.__new__") (by kernel_rfl) (by first|rfl|decide +kernel|(unfold String.splitOn;simp +decide [String.splitOnAux])) (by decide +kernel) (by kernel_rfl)
theorem zI:plainId "bytearray.__new__"=true:=by decide +kernel
theorem Ft:entryFor table "bytearray.__init__"=some Builtin.«bytearray.__init__»:=entryFor_of_tree (by kernel_rfl)
set_option maxRecDepth 1000000 in
set_option maxHeartbeats 4000000 in
theorem Ih:("bytearray.__new__".splitOn ".__new__").headD ""="bytearray":=by rw [split_bytearray];rfl
theorem UM(o:Value):argsOk "bytearray.__init__" ⟨[o], []⟩:=by unfold argsOk;kernel_rfl
theorem M_(o a:Value):argsOk "bytearray.__init__" ⟨[o,a], []⟩:=by unfold argsOk;kernel_rfl
theorem UN:Bytes.bindOptional "bytearray.__init__" "bytearray" ["source","encoding","errors"] [] []=pure [none,none,none]:=by kernel_rfl
theorem bind1(v:Value):Bytes.bindOptional "bytearray.__init__" "bytearray" ["source","encoding","errors"] [v] []=pure [some v,none,none]:=by kernel_rfl
section
variable {prog:Program}{w:World}{A:Around}{E:Value->Shared->Prop}{s:Shared}
theorem KC{l:List Value}(hl:checkBuiltinCall "bytearray.__new__" ⟨.type "bytearray"::l, []⟩=pure ()){Q₁:Value->Shared->Prop}
  (h:Q₁ (.ref s.heap.objs.size) {s with heap:=s.heap.push {cls:= .type "bytearray",data:= .bytearray #[]}}):
  codeAny (model prog w) A (.call (.builtin "bytearray.__new__") ⟨.type "bytearray"::l, []⟩) (wants Q₁ E) s:=by
 refine codeAny_of_tree ?_;refine aN (wpAny_of_eq hl (cP ⟨plainId_quiet zI _,codeAny_builtin_stack Ig rfl fun p st=> ?_⟩));rw [Around.under_plainId zI _];have rU:=s_;have BS:=Ih;obtain⟨hp,g,d,tk,os⟩:=s;refine aN (m:=isType (.type "bytearray")) (wpAny_of_eq (a:=true) rfl ?_);refine bm_if_false rfl ?_;rw [BS];refine aN (wpAny_of_eq rU ?_);refine bm_if_false rfl ?_;refine aN (wpAny_of_eq (a:=Data.bytearray #[]) (by kernel_rfl) ?_);refine bm_if_true (by kernel_rfl) ?_;refine aN (wpAny_newObj_type (cP h))
end
end BA
end
section
open Builtin
variable {n:Nat}{T id:String}{b:Builtin}{name:Str}{self:Value}{Q:Shared->Prop}{args:List Value}{E:Value->Shared->Prop}{t:Tok}
theorem ni{k:Int}(h0:0<=k)(h1:k<n):seqIndex? k n=some k.toNat:=by
 have hn:¬k<0:=by exact Rl h0
 simp [seqIndex?,hn,h0,h1]
theorem Dr(h:0<n):seqIndex? (-1) n=some (n-1):=by
 unfold seqIndex?;simp;exact Y9 h
section
variable {prog:Program}{w:World}{A:Around}{s:Shared}
theorem zJ{R:Result->Shared->Prop}{args:Args}(fZ:jZ (.builtin id args)=true)(hb:entryFor table id=some b)
  (h:ay s (fun e s'=>R (.error e) s') (A.under (.builtin id args)) (model prog w) (fun fin s'=>match fin with| .done f=>R (.ok f) s'| .again c'=>c'.quiet=true/\cQ (model prog w) A c' R s') (b args)):cQ (model prog w) A (.builtin id args) R s:=by
 refine dG fZ ?_;show ay s _ _ _ _ (match entryFor table id with|some b=>b args|none=>unsupported ((withoutEnding? id "#data").getD id));rw [hb];exact h
theorem uw{rest:List Value}{Q:Value->Shared->Prop}(slot:Slot T name id)(fZ:jZ (.builtin id ⟨self::rest, []⟩)=true)(entry:entryFor table id=some b)(hT:s.TypeIs self T)(ha:argsOk id ⟨self::rest, []⟩)
  (h:ay s cX A.in1 (model prog w) (fun fin s'=>∃v,fin= .done (.ret v)/\Q v s') (b ⟨self::rest, []⟩)):ay s cX A (model prog w) Q (call (.builtin id) (self::rest)):=by
 refine iJ (iw fZ (plainId_quiet slot.plain _) entry (aj (slot.check _ _ _ _ _ _ _ _ hT ha ?_)));rw [Around.under_plainId slot.plain];exact au h (fun fin s' ⟨v,e,q⟩=>by subst e;exact q) fun O O f=>f
theorem t5{Q:Option Value->Shared->Prop}(slot:Slot T name id)(hT:s.TypeIs self T)
  (h:ay s cX A (model prog w) (fun v s'=>Q (some v) s') (call (.builtin id) (self::args))):ay s cX A (model prog w) Q (callSpecial? self name args):=by
 refine af (aj (wpAny_specialOf hT slot.lookup ?_));refine aK (af (cR (slot.bind self) ?_));exact af (au h (fun v s' q=>ax q) fun O O f=>f)
theorem Ii{newId yI:String}{Bi:Builtin}{Q Q₁:Value->Shared->Prop}(ft:TypeCalled T newId yI)
  (UP:checkTypeCall T ⟨args, []⟩=pure ())(Qe:entryFor table yI=some Bi)(fZ:∀obj,jZ (.builtin yI ⟨obj::args, []⟩)=true)
  (nS:codeAny (model prog w) A.in1 (.call (.builtin newId) ⟨.type T::args, []⟩) (wants Q₁ cX) s)
  (UQ:∀obj s₁,Q₁ obj s₁->s₁.TypeIs obj T/\argsOk yI ⟨obj::args, []⟩/\ay s₁ cX A.in1.in1 (model prog w) (fun fin s'=>fin= .done (.ret .none)/\Q obj s') (Bi ⟨obj::args, []⟩)):
  ay s cX A (model prog w) Q (call (.type T) args):=by
 obtain⟨c,tl,adR⟩:=ft.mro;have UR:=ft.made;have rU:=ft.sub;refine iJ (dG rfl ?_);refine ax ⟨Code.quiet_builtin _ (by decide +kernel),zJ rfl F.entry_type_call ?_⟩;rw [Around.under_plain (weight_type_call_type T args []) rfl];have h1:=ft.notType;have h2:=ft.canCreate;unfold Builtin.«type.__call__»;dsimp only;simp -iota only [h1,Bool.false_eq_true,if_false];rw [if_neg (by rw [h2];exact Bool.false_ne_true)];refine af (cR UP (af (cR adR ?_)));refine af (cR UR (af (ax (af (aK (iJ (Kk (codeAny_mono nS fun r s₁ hr=> ?_))))))));rcases r with e|(_|_|_|obj) <;> first|exact hr.elim|skip
 obtain⟨hT,US,hsi⟩:=UQ _ _ hr;refine af (aj (wpAny_isInstance hT rU ?_));refine af (aK (t5 ft.init hT (uw ft.init (fZ obj) Qe hT US (au hsi (fun fin s' ⟨e,q⟩=>⟨_,e, ?_⟩) fun O O f=>f))));exact ax q
theorem B1{o i v:Value}{Q:Unit->Shared->Prop}(hT:s.TypeIs o T)(hn:seqItemTypes.contains T=false)(slot:Slot T "__setitem__" id)(h:ay s cX A (model prog w) (fun O=>Q ()) (call (.builtin id) [o,i,v])):ay s cX A (model prog w) Q (setItem o i v):=by
 refine aK (af (aj (wpAny_sequenceKey hT hn ?_)));exact af (t5 slot hT (au h (fun v s' q=>ax q) fun O O f=>f))
end
noncomputable abbrev kC(b:Array UInt8):Obj:= {cls:= .type "bytearray",data:= .bytearray b}
section
variable {prog:Program}{w:World}{A:Around}{s:Shared}{a:Addr}{b:Array UInt8}
theorem se{Q:Bool->Shared->Prop}(ho:s.heap.get? a=some (kC b))(h:Q false s):wpAny (model prog w) A (Bytes.ownRelease (.ref a)) Q E s:=by
 exact aN (wC ho rfl nU M7 M8 (cP h))
theorem vu{Q:Bool->Shared->Prop}(ho:s.heap.get? a=some (kC b))(h:Q false s):ay s cX A (model prog w) Q (Bytes.exported (.ref a)<||>(do return(<- Bytes.exportsOf (.ref a))>0)):=by
 refine af (m:=Bytes.exported (.ref a)) (A0 ?_);refine af (m:=Bytes.exportsOf (.ref a)) ?_;refine af (aj (wpAny_load ho ?_));exact ax (ax h)
theorem kD{Q:Unit->Shared->Prop}{f:Array UInt8->Array UInt8}(ho:s.heap.get? a=some (kC b))(hz:(f b).size<=100000)(h:∀h',h'.get? a=some (kC (f b))->Heap.SameBut a s.heap h'->Q () {s with heap:=h'}):wpAny (model prog w) A (Bytes.write (.ref a) f) Q E s:=by
 have D':(s.heap.update a (Obj.mapBytearray f)).get? a=some (kC (f b)):=Heap.get?_update_self _ ho rfl;refine aN (wpAny_load ho (show wpAny _ _ (update a _ >>= _) _ _ _ from aN (wpAny_update ho ?_)));refine wpAny_lookBehind D' ?_ (h _ D' (Heap.SameBut.update ..));exact if_neg (by rw [sizeLine_eq];exact Y_ hz)
theorem KD(ho:s.heap.get? a=some (kC b))(h:∀h',h'.get? a=some (kC #[])->Heap.SameBut a s.heap h'->Q {s with heap:=h'}):
  ay s cX A (model prog w) (fun fin s'=>fin= .done (.ret .none)/\Q s') (Builtin.«bytearray.__init__» ⟨[.ref a], []⟩):=by
 refine af (aj (se ho ?_));refine af (cR BA.UN ?_);dsimp only;refine af (cR (a:=()) rfl (af (cR (a:=()) rfl (af (vu ho ?_)))));refine af (aj (kD (f:=fun O=> #[]) ho (by simp) fun h' hH hs=> ?_));exact ax ⟨rfl,h h' hH hs⟩
theorem Ds{x:Value}(hx:x=Value.int (n:Int) t)(hn:n<=100000)(ho:s.heap.get? a=some (kC b))(h:∀h',h'.get? a=some (kC (Array.replicate n 0))->Heap.SameBut a s.heap h'->Q {s with heap:=h'}):
  ay s cX A (model prog w) (fun fin s'=>fin= .done (.ret .none)/\Q s') (Builtin.«bytearray.__init__» ⟨[.ref a,x], []⟩):=by
 have hT:∀s:Shared,s.TypeIs x "int":=fun s=>by rw [hx];exact typeIs_int _ _ _
 have hI:asIndex x=pure (n:Int):=by rw [hx];rfl
 have hS:asStr? x=pure none:=by rw [hx];rfl
 refine af (aj (se ho ?_));refine af (cR (BA.bind1 _) ?_);dsimp only;refine af (cR (a:=()) rfl (af (cR (a:=()) rfl (af (vu ho ?_)))));refine af (aj (kD (f:=fun O=> #[]) ho (by simp) fun h' hH hs=> ?_));rw [hS];refine af (ax ?_);refine af (ax ?_);refine af (aj (wpAny_specialOf (hT _) iV ?_));rw [hI];have ha:(pure (n:Int):Sem Int).attempt=pure (Except.ok (n:Int)):=rfl;rw [if_pos (show(Option.isSome (some (Value.builtin "int.__index__"))=true) from rfl),ha,LawfulMonad.pure_bind];have hf:(!Bytes.fitsIndex (n:Int))=false:=by
  unfold Bytes.fitsIndex;rw [decide_eq_true (show -(2 ^ 63:Int)<=(n:Int) by exact Ry),decide_eq_true (show(n:Int)<2 ^ 63 by exact Pq hn)];rfl
 have h0:¬((n:Int)<0):=by exact TO
 have h63:¬(((n:Int)==2 ^ 63-1)=true):=by
  rw [beq_iff_eq];exact Za hn
 have hL:¬(Bytes.tooLong (n:Int).toNat=true):=by
  unfold Bytes.tooLong;rw [decide_eq_true_eq,sizeLine_eq];exact Rz hn
 dsimp only;have hf':¬((!Bytes.fitsIndex (n:Int))=true):=by rw [hf];exact Bool.false_ne_true
 rw [if_neg hf',if_neg h0,if_neg h63,if_neg hL];refine af (ko ?_)
 by_cases hp:(n:Int)>0
 ·rw [if_pos hp];refine af (aj (kD (s:= {s with heap:=h'}) (f:=fun O=>Array.replicate (n:Int).toNat 0) hH (by rw [Array.size_replicate];exact Zb hn) fun h2 px wD=> ?_));refine ax ⟨rfl,h h2 (by rw [show(n:Int).toNat=n by exact Zc hp] at px;exact px) ⟨wD.1.trans hs.1,fun c hc=>(wD.2 c hc).trans (hs.2 c hc)⟩⟩
 ·rw [if_neg hp];obtain rfl:n=0:=by exact Zd hp
  exact ax ⟨rfl,h h' hH hs⟩
theorem zK{x:Array UInt8}(hn:x.size<=100000)(ho:s.heap.get? a=some (kC b))(h:∀h',h'.get? a=some (kC x)->Heap.SameBut a s.heap h'->Q {s with heap:=h'}):
  ay s cX A (model prog w) (fun fin s'=>fin= .done (.ret .none)/\Q s') (Builtin.«bytearray.__init__» ⟨[.ref a,.bytes x t], []⟩):=by
 unfold Builtin.«bytearray.__init__»;dsimp only;refine af (aj (se ho ?_));refine af (cR (BA.bind1 _) ?_);dsimp only;refine af (cR (a:=()) rfl (af (cR (a:=()) rfl (af (vu ho ?_)))));refine af (aj (kD (f:=fun O=> #[]) ho (by simp) fun h' hH hs=> ?_));refine af (cR (a:=none) rfl ?_);refine af (ax ?_);refine af (cR (a:=none) (KBy.special_eq (by rw [typeLookup_type,builtinLookup_eq_fast];kernel_rfl)) ?_);refine af (cR (a:=some x) (by
  first|exact KBy.buffer_eq|rfl) ?_)
 refine af (ko ?_);refine af (aj (kD (s:= {s with heap:=h'}) (f:=fun O=>x) hH hn fun h2 px wD=> ?_));exact ax ⟨rfl,h h2 px ⟨wD.1.trans hs.1,fun c hc=>(wD.2 c hc).trans (hs.2 c hc)⟩⟩
end
end
section
open Builtin
variable {Q:Value->Shared->Prop}{k:Int}{t:Tok}
namespace BA
theorem KG:Slot "bytearray" "__len__" "bytearray.__len__":=
 .of (owner:="bytearray") (n:="__len__") (by rw [typeLookup_type,builtinLookup_eq_fast];kernel_rfl) (by decide +kernel) (by decide +kernel) (by decide +kernel) (by first|exact .inl (by decide +kernel)|exact .inr (by decide +kernel)) s_
theorem lV:Slot "bytearray" "__getitem__" "bytearray.__getitem__":=
 .of (owner:="bytearray") (n:="__getitem__") (by rw [typeLookup_type,builtinLookup_eq_fast];kernel_rfl) (by decide +kernel) (by decide +kernel) (by decide +kernel) (by first|exact .inl (by decide +kernel)|exact .inr (by decide +kernel)) s_
theorem lW:Slot "bytearray" "__setitem__" "bytearray.__setitem__":=
 .of (owner:="bytearray") (n:="__setitem__") (by rw [typeLookup_type,builtinLookup_eq_fast];kernel_rfl) (by decide +kernel) (by decide +kernel) (by decide +kernel) (by first|exact .inl (by decide +kernel)|exact .inr (by decide +kernel)) s_
theorem vw:Slot "bytearray" "extend" "bytearray.extend":=
 .of (owner:="bytearray") (n:="extend") (by rw [typeLookup_type,builtinLookup_eq_fast];kernel_rfl) (by decide +kernel) (by decide +kernel) (by decide +kernel) (by first|exact .inl (by decide +kernel)|exact .inr (by decide +kernel)) s_
theorem entry_len:entryFor table "bytearray.__len__"=some Builtin.«bytearray.__len__»:=entryFor_of_tree (by kernel_rfl)
theorem sf:entryFor table "bytearray.__getitem__"=some Builtin.«bytearray.__getitem__»:=entryFor_of_tree (by kernel_rfl)
theorem si:entryFor table "bytearray.__setitem__"=some Builtin.«bytearray.__setitem__»:=entryFor_of_tree (by kernel_rfl)
theorem Bg:entryFor table "bytearray.extend"=some Builtin.«bytearray.extend»:=entryFor_of_tree (by kernel_rfl)
theorem KH(a:Value):argsOk "bytearray.__len__" ⟨[a], []⟩:=by unfold argsOk;kernel_rfl
theorem t6(a b:Value):argsOk "bytearray.__getitem__" ⟨[a,b], []⟩:=by unfold argsOk;kernel_rfl
theorem t7(a b c:Value):argsOk "bytearray.__setitem__" ⟨[a,b,c], []⟩:=by unfold argsOk;kernel_rfl
theorem Dt(a b:Value):argsOk "bytearray.extend" ⟨[a,b], []⟩:=by unfold argsOk;kernel_rfl
theorem Du:typeOf (.builtin "bytearray.extend")=pure (.type "method_descriptor"):=by show builtinType _=_;rw [builtinType_eq_fast];kernel_rfl
theorem Bh:typeLookup (.type "bytearray") "__getattribute__"=pure (some (.builtin "bytearray.__getattribute__")):=by rw [typeLookup_type,builtinLookup_eq_fast];kernel_rfl
theorem tK:(Manifest.canonical "bytearray.__getattribute__" != "object.__getattribute__")=false:=by decide +kernel
theorem Bj:typeLookup (.type "bytearray") "__getattr__"=pure none:=by rw [typeLookup_type,builtinLookup_eq_fast];kernel_rfl
end BA
section
variable {prog:Program}{w:World}{A:Around}{s:Shared}{a:Addr}{b:Array UInt8}{E:Value->Shared->Prop}
theorem gj(ho:s.heap.get? a=some (kC b)):s.TypeIs (.ref a) "bytearray":=⟨_,ho,rfl⟩
theorem Bk{pl:Sem Bool}{Q:Value×List Value->Shared->Prop}(ho:s.heap.get? a=some (kC b))(h:Q (.builtin "bytearray.extend", [.ref a]) s):wpAny (model prog w) A (getMethod (.ref a) "extend" pl) Q E s:=by
 have hT:=gj ho;refine aN (wpAny_specialOf hT BA.Bh ?_);show wpAny _ A (if(Manifest.canonical "bytearray.__getattribute__" != "object.__getattribute__")=true then _ else _) Q E s;rw [BA.tK,if_neg Bool.false_ne_true];refine aN (wpAny_specialOf hT BA.Bj ?_);refine aN (wpAny_specialOf hT BA.vw.lookup ?_);refine aN (wpAny_of_eq BA.Du ?_);refine aN (wpAny_load ho ?_);exact aN (wpAny_rule (cP h))
theorem Bl(a:Addr)(b:Array UInt8):Meets (Builtin.«bytearray.__len__» ⟨[.ref a], []⟩) (fun O R s=>s.heap.get? a=some (kC b)/\R (.ok (.ret (.int b.size s.toks))) {s with toks:=s.toks+1}):=
 .of_wp fun prog w A R s h=>by
  obtain⟨ho,h⟩:=h;show wpAny _ _ (Bytes.payload (.ref a) >>= _) _ _ _;exact aN (il ho rfl (aN (wpAny_mkInt (cP ⟨_,rfl,h⟩))))
theorem Qf(ho:s.heap.get? a=some (kC b))(hz:b.size<=100000)(h:Q (.int b.size (s.toks+1)) {s with toks:=s.toks+1+1}):wpAny (model prog w) A (call (.builtin "len") [.ref a]) Q E s:=
 call_len_meets (gj ho) BA.KG BA.entry_len (BA.KH _) (Bl a b) (by exact TO) (by exact RY hz) (fun O hq=>⟨ho,hq⟩) h
theorem sj{x:Value}{Q:Option Int->Shared->Prop}(hx:x=Value.int k t)(h0:0<=k)(h1:k<2 ^ 62)(h:Q (some k) s):wpAny (model prog w) A (Bytes.subscript? x) Q E s:=by
 have hT:s.TypeIs x "int":=by rw [hx];exact typeIs_int _ _ _
 have hI:asIndex x=pure k:=by rw [hx];rfl
 refine aN (wpAny_specialOf hT iV ?_);rw [if_neg (show¬(Option.isNone (some (Value.builtin "int.__index__"))=true) from Bool.false_ne_true),hI,LawfulMonad.pure_bind];have hf:(!Bytes.fitsIndex k)=false:=by
  unfold Bytes.fitsIndex;rw [decide_eq_true (show -(2 ^ 63:Int)<=k by exact aa9 h0),decide_eq_true (show k<2 ^ 63 by exact aa_ h1)];rfl
 rw [hf];exact cP h
theorem zL(a:Addr)(b:Array UInt8)(x:Value)(k:Int)(t:Tok)(hx:x=Value.int k t)(h0:0<=k)(h1:k<b.size)(hz:b.size<=100000):
  Meets (Builtin.«bytearray.__getitem__» ⟨[.ref a,x], []⟩) (fun O R s=>s.heap.get? a=some (kC b)/\R (.ok (.ret (.int ((b.getD k.toNat 0).toNat:Int) s.toks))) {s with toks:=s.toks+1}):=
 .of_wp fun prog w A R s h=>by
  obtain⟨ho,h⟩:=h;show wpAny _ _ (Bytes.subscript? x >>= _) _ _ _;refine aN (sj hx h0 (by exact Rm h1 hz) ?_);refine aN (il ho rfl ?_);have hl:k.toNat<b.size:=by exact aba h0 h1
  rw [ni h0 h1];have e:b[k.toNat]? =some (b.getD k.toNat 0):=by simp [hl]
  show wpAny _ _ (match b[k.toNat]? with|some x=>_|none=>_) _ _ _;rw [e];exact aN (wpAny_mkInt (cP ⟨_,rfl,h⟩))
theorem Na(ho:s.heap.get? a=some (kC b))(h0:0<=k)(h1:k<b.size)(hz:b.size<=100000)(h:Q (.int ((b.getD k.toNat 0).toNat:Int) s.toks) {s with toks:=s.toks+1}):wpAny (model prog w) A (getItem (.ref a) (.int k t)) Q E s:=
 getItem_meets (gj ho) rfl BA.lV BA.sf (BA.t6 _ _) (zL a b _ k t rfl h0 h1 hz) ⟨ho,h⟩
theorem qF{sl:Addr}{l u:Value}{lo hi:Option Int}{Q:Value×Value×Value->Shared->Prop}(hs:s.heap.IsSliceOf sl l u .none)(hl:IsPart l lo)(hu:IsPart u hi)(h:Q (rawPart lo,rawPart hi,rawPart none) s):wpAny (model prog w) A (Bytes.sliceParts (.ref sl)) Q E s:=by
 obtain⟨o,ho,hc,hd⟩:=hs;have hT:s.TypeIs (.ref sl) "slice":=⟨o,ho,hc⟩;refine aN (wpAny_field (x:= .none) ho hd rfl ?_);have part:∀ {v:Value} {r:Option Int} {K:Value->Shared->Prop},IsPart v r->K (rawPart r) s->wpAny (model prog w) A (do
   if v== .none then return .none
   if(<- specialOf v "__index__").isNone then
    rule "bytes.slice.part-no-index";raiseError "TypeError" "slice indices must be integers or None or have an __index__ method"
   return rawInt (<- asIndex v)) K E s:=fun {v r K} hp hk=>by
  cases hp with
  |none=>exact cP hk
  |int i t=>
   refine aN (wpAny_specialOf (typeIs_int _ _ _) iV ?_);exact aN (wpAny_of_eq (a:=i) rfl (cP hk))
 refine aN (part .none ?_);refine aN (wpAny_field (x:=l) ho hd rfl ?_);refine aN (part hl ?_);refine aN (wpAny_field (x:=u) ho hd rfl ?_);refine aN (part hu ?_);exact cP h
end
end
section
open Builtin
variable {α:Type}{l u:Value}{hi lo:Option Int}{Q:Value->Shared->Prop}{n:Int}{t:Tok}
noncomputable abbrev c8{α:Type}(b:List α)(lo hi:Option Int):List α:=(b.drop (lo.elim 0 (clipAt b.length))).take (hi.elim b.length (clipAt b.length)-lo.elim 0 (clipAt b.length))
theorem tc(b:List α){a c:Nat}(h:a<=c):c8 b (some (a:Int)) (some (c:Int))=(b.drop a).take (c-a):=by
 simp only [c8,Option.elim,clipAt_nat]
 by_cases h1:c<=b.length
 ·rw [Nat.min_eq_left h1,Nat.min_eq_left (jc h h1)]
 ·rw [Nat.min_eq_right (by exact He h1)]
  by_cases h2:a<=b.length
  ·rw [Nat.min_eq_left h2,qV (by rw [oJ];exact TL),qV (by rw [oJ];exact XB h h1 h2)]
  ·rw [Nat.min_eq_right (by exact He h2),List.drop_eq_nil_of_le (Nat.le_refl _),List.drop_eq_nil_of_le (by exact He h2)];simp
theorem ux(b:List α)(c:Nat):c8 b none (some (c:Int))=b.take c:=by
 simp only [c8,Option.elim,clipAt_nat,List.drop_zero,Nat.sub_zero]
 by_cases h1:c<=b.length
 ·rw [Nat.min_eq_left h1]
 ·rw [Nat.min_eq_right (by exact He h1),hF,qV (by exact He h1)]
theorem zM(b:List α)(a:Nat):c8 b (some (a:Int)) none=b.drop a:=by
 simp only [c8,Option.elim,clipAt_nat]
 by_cases h2:a<=b.length
 ·rw [Nat.min_eq_left h2,qV (by rw [oJ];exact TL)]
 ·rw [Nat.min_eq_right (by exact He h2),List.drop_eq_nil_of_le (Nat.le_refl _),List.drop_eq_nil_of_le (by exact He h2)];simp
theorem ri(b:List α)(lo hi:Option Int):(c8 b lo hi).length<=b.length:=by
 rw [ig,oJ];exact XC
theorem Fu(b:List UInt8)(lo hi:Option Int):Bytes.sliced b.toArray ((lo.elim 0 (clipAt b.length):Nat):Int) ((hi.elim b.length (clipAt b.length):Nat):Int) 1=(c8 b lo hi).toArray:=by
 unfold Bytes.sliced;simp only [sliceRange_one,pick_run]
theorem sk(b:List UInt8)(lo hi:Option Int):sliceIndices (rawPart lo) (rawPart hi) (rawPart none) b.toArray.size=pure (((lo.elim 0 (clipAt b.length):Nat):Int),((hi.elim b.length (clipAt b.length):Nat):Int),1):=by
 have h:=sliceIndices_raw lo hi none b.toArray.size (fun e=>nomatch e);rw [sliceBounds_plain] at h
 simpa using h
section
variable {prog:Program}{w:World}{A:Around}{s:Shared}{a:Addr}{b:List UInt8}{E:Value->Shared->Prop}
theorem yi(a sl:Addr)(b:List UInt8)(hl:IsPart l lo)(hu:IsPart u hi)(hz:b.length<=100000):
  Meets (Builtin.«bytearray.__getitem__» ⟨[.ref a,.ref sl], []⟩) (fun O R s=>s.heap.get? a=some (pq b)/\s.heap.IsSliceOf sl l u .none/\R (.ok (.ret (.ref s.heap.objs.size))) {s with heap:=s.heap.push (pq (c8 b lo hi))}):=
 .of_wp fun prog w A R s h=>by
  obtain⟨ho,hs,h⟩:=h;obtain⟨os,Km,Fv,hds⟩:=id hs;have hT:s.TypeIs (.ref sl) "slice":=⟨os,Km,Fv⟩;show wpAny _ _ (Bytes.subscript? (.ref sl) >>= _) _ _ _;refine aN ?_;refine aN (wpAny_specialOf hT slice_no_index (cP ?_));refine aN (wpAny_typeOf hT ?_);refine bm_if_false rfl ?_;refine aN (qF hs hl hu ?_);refine aN (il ho rfl ?_);refine aN (wpAny_of_eq (sk b lo hi) ?_);dsimp only;rw [Fu];refine aN ?_;refine wpAny_newObj_type (cP ⟨_,rfl,h⟩) ?_;show(c8 b lo hi).toArray.size<=sizeLine;rw [fX,sizeLine_eq];have:=ri b lo hi;exact Wz hz this
theorem KI{sl:Addr}(ho:s.heap.get? a=some (pq b))(hs:s.heap.IsSliceOf sl l u .none)(hl:IsPart l lo)(hu:IsPart u hi)(hz:b.length<=100000)
  (h:Q (.ref s.heap.objs.size) {s with heap:=s.heap.push (pq (c8 b lo hi))}):wpAny (model prog w) A (getItem (.ref a) (.ref sl)) Q E s:=
 getItem_meets (gj ho) (by decide) BA.lV BA.sf (BA.t6 _ _) (yi a sl b hl hu hz) ⟨ho,hs,h⟩
theorem Fw{x:Value}{Q:UInt8->Shared->Prop}(hx:x=Value.int n t)(h0:0<=n)(h1:n<256)(h:Q n.toNat.toUInt8 s):wpAny (model prog w) A (Bytes.byteValue x) Q E s:=by
 have hI:asIndex x=pure n:=by rw [hx];rfl
 unfold Bytes.byteValue;rw [hI,LawfulMonad.pure_bind];refine bm_if_false ?_ (cP h);rw [decide_eq_false (show¬n<0 by exact Rl h0),decide_eq_false (show¬n>=256 by exact XD h1)];rfl
theorem Bm(a:Addr)(b:List UInt8)(x:Value)(k:Int)(t:Tok)(y:Value)(n:Int)(u:Tok)(hx:x=Value.int k t)(hy:y=Value.int n u)(h0:0<=k)(h1:k<b.length)(hz:b.length<=100000)(hn:0<=n)(oI:n<256):
  Meets (Builtin.«bytearray.__setitem__» ⟨[.ref a,x,y], []⟩) (fun O R s=>s.heap.get? a=some (pq b)/\∀h',h'.get? a=some (pq (b.set k.toNat n.toNat.toUInt8))->Heap.SameBut a s.heap h'->R (.ok (.ret .none)) {s with heap:=h'}):=
 .of_wp fun prog w A R s h=>by
  obtain⟨ho,h⟩:=h;refine aN (sj hx h0 (by exact Rm h1 hz) ?_);refine aN (Fw hy hn oI ?_);refine aN (il ho rfl ?_);rw [ni h0 (by simpa using h1)];refine wpAny_bind (kD (b:=b.toArray) (f:=fun b=>b.setIfInBounds k.toNat n.toNat.toUInt8) ho (by simp;exact XE hz) fun h' hH hs=> ?_);refine cP ⟨_,rfl,h h' ?_ hs⟩
  simpa using hH
theorem Qg{k:Int}{u:Tok}{Q:Unit->Shared->Prop}(ho:s.heap.get? a=some (pq b))(h0:0<=k)(h1:k<b.length)(hz:b.length<=100000)(hn:0<=n)(oI:n<256)
  (h:∀h',h'.get? a=some (pq (b.set k.toNat n.toNat.toUInt8))->Heap.SameBut a s.heap h'->Q () {s with heap:=h'}):ay s cX A (model prog w) Q (setItem (.ref a) (.int k t) (.int n u)):=by
 refine B1 (gj ho) (by decide) BA.lW (aj (call_meets BA.lW (gj ho) BA.si (BA.t7 _ _ _) (Bm a b _ k t _ n u rfl rfl h0 h1 hz hn oI) ⟨ho,fun h' a b=>h h' a b⟩))
theorem Dv{args:List Value}(UP:checkTypeCall "bytearray" ⟨args, []⟩=pure ())(hcn:checkBuiltinCall "bytearray.__new__" ⟨.type "bytearray"::args, []⟩=pure ())(US:∀obj,argsOk "bytearray.__init__" ⟨obj::args, []⟩)
  (r:List UInt8)(hi:∀(A:Around) (a:Addr) (s:Shared) (b:Array UInt8) (K:Shared->Prop),s.heap.get? a=some (kC b)->(∀h',h'.get? a=some (kC r.toArray)->Heap.SameBut a s.heap h'->K {s with heap:=h'})->ay s cX A (model prog w) (fun fin s'=>fin= .done (.ret .none)/\K s') (Builtin.«bytearray.__init__» ⟨.ref a::args, []⟩))
  (h:∀h',h'.get? s.heap.objs.size=some (pq r)->Sub s.heap h'->Q (.ref s.heap.objs.size) {s with heap:=h'}):ay s cX A (model prog w) Q (call (.type "bytearray") args):=by
 refine Ii (Q₁:=fun obj s₁=>obj= .ref s.heap.objs.size/\s₁= {s with heap:=s.heap.push {cls:= .type "bytearray",data:= .bytearray #[]}}) BA.called UP BA.Ft (fun obj=> ?_) (BA.KC hcn ⟨rfl,rfl⟩) ?_
 ·show(!pZ.contains "bytearray.__init__")=true
  decide +kernel
 ·rintro obj s₁ ⟨rfl,rfl⟩;have ho:(s.heap.push {cls:= .type "bytearray",data:= .bytearray #[]}:Heap).get? s.heap.objs.size=some (kC #[]):=iR _ rfl;refine⟨⟨_,ho,rfl⟩,US _,hi _ _ _ _ _ ho fun h' hH hs=>h h' hH fun c o e=> ?_⟩;have hc:c≠s.heap.objs.size:=Nat.ne_of_lt (Heap.lt_size e);exact(hs.2 c hc).trans (gT _ e)
end
end
section
open Builtin
variable {prog:Program}{w:World}{A:Around}{s:Shared}{x:List UInt8}{t:Tok}{Q:Value->Shared->Prop}{sl:Addr}{l u:Value}{en st:Nat}
theorem Bn:isSubtype (.type "bytes") (.type "bytearray")=pure false:=by rw [isSubtype_type];kernel_rfl
theorem sub_bytes_complex:isSubtype (.type "bytes") (.type "complex")=pure false:=by rw [isSubtype_type];kernel_rfl
theorem tL:typeLookup (.type "bytes") "__index__"=pure none:=by rw [typeLookup_type,builtinLookup_eq_fast];kernel_rfl
theorem vx:typeLookup (.type "bytes") "__int__"=pure none:=by rw [typeLookup_type,builtinLookup_eq_fast];kernel_rfl
theorem tM:typeLookup (.type "bytes") "__float__"=pure none:=by rw [typeLookup_type,builtinLookup_eq_fast];kernel_rfl
theorem zN(hz:x.length<=100000)(h:∀h',h'.get? s.heap.objs.size=some (pq x)->Sub s.heap h'->Q (.ref s.heap.objs.size) {s with heap:=h'}):ay s cX A (model prog w) Q (call (.type "bytearray") [.bytes x.toArray t]):=
 Dv (BA.zH _) (BA.B0 _) (fun obj=>BA.M_ obj _) x (fun A a s b K ho k=>zK (by simpa using hz) ho k) h
theorem Dw{n:Nat}(hz:n<=100000)(h:∀h',h'.get? s.heap.objs.size=some (pq (List.replicate n 0))->Sub s.heap h'->Q (.ref s.heap.objs.size) {s with heap:=h'}):ay s cX A (model prog w) Q (call (.type "bytearray") [.int (n:Int) t]):=by
 obtain⟨x,hx⟩:∃x,x=Value.int (n:Int) t:=⟨_,rfl⟩;rw [<- hx];exact Dv (BA.zH _) (BA.B0 _) (fun obj=>BA.M_ obj _) (List.replicate n 0) (fun A a s b K ho k=>Ds hx hz ho fun h' hH hs=>k h' (by rw [hH, <- List.toArray_replicate]) hs) h
theorem KJ(h:∀h',h'.get? s.heap.objs.size=some (pq [])->Sub s.heap h'->Q (.ref s.heap.objs.size) {s with heap:=h'}):ay s cX A (model prog w) Q (call (.type "bytearray") []):=
 Dv BA.Ie BA.KA (fun obj=>BA.UM obj) [] (fun A a s b K ho k=>KD ho k) h
section
variable {prog:Program}{w:World}{A:Around}{s:Shared}{a:Addr}{b:List UInt8}
theorem vy{Q:Shared->Prop}(ho:s.heap.get? a=some (pq b))(hs:s.heap.IsSliceOf sl l u .none)(hl:IsPart l (some (st:Int)))(hu:IsPart u (some (en:Int)))(h1:st<=en)(h2:en<=b.length)(hx:x.length=en-st)(hz:b.length<=100000)
  (h:∀h',h'.get? a=some (pq (b.take st++x++b.drop en))->(∀c o,c≠a->s.heap.get? c=some o->h'.get? c=some o)->Q {s with heap:=h'}):
  ay s cX A (model prog w) (fun fin s'=>∃v,fin= .done (.ret v)/\Q s') (Builtin.«bytearray.__setitem__» ⟨[.ref a,.ref sl,.bytes x.toArray t], []⟩):=by
 obtain⟨os,Km,Fv,hds⟩:=id hs;have hT:s.TypeIs (.ref sl) "slice":=⟨os,Km,Fv⟩;have hB:s.TypeIs (.bytes x.toArray t) "bytes":=typeIs_bytes _ _ _;unfold Builtin.«bytearray.__setitem__»;dsimp only;refine af (aj ?_);refine aN (wpAny_specialOf hT slice_no_index (cP ?_));refine af (aj (wpAny_typeOf hT ?_));refine af (aj (qF hs hl hu ?_));refine af (aj (wpAny_isInstance hB Bn ?_));refine af (aj ?_);refine aN (m:=do let r <- specialOf (.bytes x.toArray t) "__index__";pure r.isSome) (aN (wpAny_specialOf hB tL (cP ?_)));refine aN (m:=do let r <- specialOf (.bytes x.toArray t) "__int__";pure r.isSome) (aN (wpAny_specialOf hB vx (cP ?_)));refine aN (m:=do let r <- specialOf (.bytes x.toArray t) "__float__";pure r.isSome) (aN (wpAny_specialOf hB tM (cP ?_)));refine wpAny_isInstance hB sub_bytes_complex ?_;refine af (cR (a:=none) rfl ?_);refine af (ko (af (zN (by exact acA h1 h2 hx hz) fun Nb u9 rX=> ?_)));have adT:Nb.get? sl=some os:=rX _ _ Km;refine af (aK (aj (qF (s:= {s with heap:=Nb}) ⟨os,adT,Fv,hds⟩ hl hu ?_)));refine af (aj (il u9 rfl ?_));have hoa:Nb.get? a=some (pq b):=rX _ _ ho;refine af (aj (il (s:= {s with heap:=Nb}) hoa rfl ?_));refine af (cR (sk b (some (st:Int)) (some (en:Int))) ?_);have e1:(some (st:Int)).elim 0 (clipAt b.length)=st:=by show clipAt b.length (st:Int)=st;rw [clipAt_nat];exact acB h1 h2
 have e2:(some (en:Int)).elim b.length (clipAt b.length)=en:=by show clipAt b.length (en:Int)=en;rw [clipAt_nat];exact acC h2
 rw [e1,e2];have e3:Max.max (st:Int) (en:Int)=en:=by exact acD h1 e1 e2
 have e4:((x.toArray.size:Int) != (en:Int)-(st:Int))=false:=by rw [List.size_toArray,hx];simp;exact acE h1 e1 e2 e3
 rw [e3,e4];refine af (ko (af (aj (kD (s:= {s with heap:=Nb}) (b:=b.toArray) (f:=fun b=>b.extract 0 (st:Int).toNat++x.toArray++b.extract (en:Int).toNat b.size) hoa ?_ fun h2' px wD=> ?_))))
 ·simp;exact acF h1 h2 hx hz e1 e2 e3
 ·refine ax ⟨_,rfl,h h2' ?_ fun c o hc e=>(wD.2 c hc).trans (rX c o e)⟩;rw [px];have:(b.toArray.extract 0 (st:Int).toNat++x.toArray++b.toArray.extract (en:Int).toNat b.toArray.size)=(b.take st++x++b.drop en).toArray:=by
   have e5:List.take (b.length-en) (List.drop en b)=List.drop en b:=qV (by rw [oJ];exact TL);simp [e5]
  rw [this]
theorem Dx{Q:Unit->Shared->Prop}(ho:s.heap.get? a=some (pq b))(hs:s.heap.IsSliceOf sl l u .none)(hl:IsPart l (some (st:Int)))(hu:IsPart u (some (en:Int)))(h1:st<=en)(h2:en<=b.length)(hx:x.length=en-st)(hz:b.length<=100000)
  (h:∀h',h'.get? a=some (pq (b.take st++x++b.drop en))->(∀c o,c≠a->s.heap.get? c=some o->h'.get? c=some o)->Q () {s with heap:=h'}):
  ay s cX A (model prog w) Q (setItem (.ref a) (.ref sl) (.bytes x.toArray t)):=by
 refine B1 (gj ho) rfl BA.lW (uw BA.lW ?_ BA.si (gj ho) (BA.t7 _ _ _) (vy ho hs hl hu h1 h2 hx hz h));show(!pZ.contains "bytearray.__setitem__")=true
 decide +kernel
theorem Ij(ho:s.heap.get? a=some (pq b))(hz:b.length+x.length<=100000)(h:∀h',h'.get? a=some (pq (b++x))->Heap.SameBut a s.heap h'->Q .none {s with heap:=h'}):
  ay s cX A (model prog w) Q (call (.builtin "bytearray.extend") [.ref a,.bytes x.toArray t]):=by
 have hB:s.TypeIs (.bytes x.toArray t) "bytes":=typeIs_bytes _ _ _;refine uw BA.vw ?_ BA.Bg (gj ho) (BA.Dt _ _) ?_
 ·show(!pZ.contains "bytearray.extend")=true
  decide +kernel
 refine af (cR (a:=(.ref a,.bytes x.toArray t)) ?_ ?_)
 ·rfl
 refine af (cR (KBy.special_eq KBy.look_buffer) ?_);refine af (ko (af (aj (il ho rfl ?_))));have htb:Bytes.takeBufferQuiet? "bytearray.extend" (.bytes x.toArray t) 0=pure (some (x.toArray,none)):=by
  have h1:Bytes.takeBuffer? "bytearray.extend" (.bytes x.toArray t) 0=pure (some (x.toArray,none)):=by
   unfold Bytes.takeBuffer?;rw [KBy.special_eq KBy.look_buffer];have hf:((0:Int)==Bytes.fullReadOnly)=false:=by decide
   simp -iota only [pure_bind,KBy.own_buffer,hf,Bool.not_true,Bool.false_eq_true,if_false];rw [KBy.buffer_eq]
   rfl
  unfold Bytes.takeBufferQuiet?;rw [h1]
  rfl
 refine af (cR htb ?_);show ay _ _ _ _ _ (do
   if !x.toArray.isEmpty then Bytes.checkResize (.ref a)
   Bytes.write (.ref a) (· ++x.toArray)
   ret .none)
 have fin:ay s cX A.in1 (model prog w) (fun fin s'=>∃v,fin= .done (.ret v)/\Q v s') (do Bytes.write (.ref a) (· ++x.toArray);ret .none):=by
  refine af (aj (kD (b:=b.toArray) (f:=fun b=>b++x.toArray) ho (by simp;exact acG hz) fun h' hH hs=>ax ⟨_,rfl,h h' ?_ hs⟩));rw [hH,List.append_toArray]
 split
 ·refine af ?_;refine af (vu ho ?_);exact ax fin
 ·exact fin
end
end
section
set_option backward.match.sparseCases false
variable {i n:Nat}{xs:List MV}{k:Int}{prog:Program}{w:World}{A:Around}{s:Shared}{g h:Heap}{a b v:Value}{ρ:Nat->Addr}{m:MH}{es:List (Int×MV)}{kvs:List (Int×Value)}{x:MV}
section
variable {prog:Program}{w:World}{g:Heap}{A:Around}{s s':Shared}{ρ ρ':Nat->Addr}{m m':MH}{E:Value->Shared->Prop}
theorem td{o:Obj}{mo:MO}{K:Value->Shared->Prop}{t:Nat}(S:OK prog w g s ρ m)(hf:o.isFreed=false)(hr:lu ρ m.n s.heap (eQ ρ m.n s.heap.objs.size) (m.n+1) (s.heap.push o)->mT prog w (eQ ρ m.n s.heap.objs.size) (m.n+1) (s.heap.push o) m.n mo o)
  (k:∀ρ' s',OK prog w g s' ρ' (m.new mo)->dh fo s ρ m s' ρ' (m.new mo)->K (.ref (ρ' m.n)) s'):K (.ref s.heap.objs.size) {s with heap:=s.heap.push o,toks:=t}:=by
 have hs:Sub s.heap (s.heap.push o):=fun a o' e=>gT _ e;have V:dh fo s ρ m {s with heap:=s.heap.push o,toks:=t} ρ m:= .grow hs rfl rfl;have:=k (eQ ρ m.n s.heap.objs.size) {s with heap:=s.heap.push o,toks:=t} ((S.grow hs).new (a:=s.heap.objs.size) (o:=o) (iR _ hf) (S.pv (cA _)) (S.lD (cA _)) fun M=>hr ⟨fun i hi=>fD hi,Nat.le_succ _,fun a o' e f=>hs a o' e⟩) (V.wc (cA _));rw [el] at this;exact this
theorem OK.lst(S:OK prog w g s ρ m)(hi:i<m.n)(e:m.ob i= .list xs):∃vs ep,s.heap.get? (ρ i)=some (fP vs ep)/\bI ρ m.n s.heap xs vs:=by
 obtain⟨o,ho,r⟩:=S.ob i hi;rw [e] at r;obtain⟨vs,ep,rfl,rs⟩:=r;exact⟨vs,ep,ho,rs⟩
theorem OK.bar(S:OK prog w g s ρ m){b:List UInt8}(hi:i<m.n)(e:m.ob i= .ba b):s.heap.get? (ρ i)=some (pq b):=by
 obtain⟨o,ho,r⟩:=S.ob i hi;rw [e] at r;cases r;exact ho
end
noncomputable def zO(x y:MV):MM MV:=fun m=>match x with
 | .int a=>y.int?.bind fun b=>some (.int (a+b),m)
 | .bytes a=>y.qv.bind fun b=>if a.length+b.length<=100000 then some (.bytes (a++b),m) else none
 | .str a=>y.u5.bind fun b=>if a.length+b.length<=100000 then some (.str (a++b),m) else none
 | .obj i=>y.ij.bind fun j=>(m.ob i).gR.bind fun xs=>(m.ob j).gR.bind fun ys=>if xs.length+ys.length<=100000 then some (.obj m.n,m.new (.list (xs++ys))) else none
 |_=>none
theorem bY:nQ .Add zO:=by
 intro prog w A g s ρ m x y a b hA S rx ry;refine rx.casesOn True.intro (fun O=>True.intro) (fun k t=> .opt fun j hj=>by obtain⟨u,rfl⟩:=ry.iF hj;exact aj (add_int (gN S (.int _ _)))) (fun k t=> .opt fun j hj=> .ite fun h=>by obtain⟨u,rfl⟩:=ry.xf hj;exact aj (add_str (fun t' tk=>gN S (.str _ _)) (by rw [sizeLine_eq];exact T6 h))) (fun k t=> ?_) (fun O O=>True.intro) (fun O=>True.intro) (fun hi=> ?_) (fun O=>True.intro)
 ·exact .opt fun j hj=> .ite fun h=>by
   obtain⟨u,rfl⟩:=ry.u6 hj;refine aj (KBy.add_bytes (by rw [fX,fX];exact T6 h) fun t' kk=> ?_);rw [List.append_toArray];exact gN S (.bytes _ _)
 ·exact .opt fun j hj=> .opt fun xs q1=> .opt fun ys q2=> .ite fun h=>by
   obtain⟨hj,rfl⟩:=ry.ik hj;obtain⟨vs,ep,h1,r1⟩:=S.lst hi (MO.jO q1);obtain⟨us,CV,h2,r2⟩:=S.lst hj (MO.jO q2);refine aj (P.add_list h1 h2 ?_ (by rw [fX,fX, <- r1.length, <- r2.length,sizeLine_eq];exact T6 h));rw [List.append_toArray];exact td (K:=lx prog w g fo a_ s ρ m (.obj m.n) (m.new (.list (xs++ys)))) (t:=s.toks) (mo:= .list (xs++ys)) S rfl (fun M=>⟨_,0,rfl,(r1.append r2).mono M⟩) fun ρ' s' S' V'=>⟨ρ',S',V',.obj (gA _)⟩
noncomputable def lA(k:Int):List (Int×MV)->Option MV
 | []=>none
 |(k',v)::r=>if k'=k then some v else lA k r
theorem uy{k':Int}{v:MV}{r:List (Int×MV)}:lA k ((k',v)::r)=if k'=k then some v else lA k r:=rfl
noncomputable def B7(k:Int)(x:MV)(es:List (Int×MV)):List (Int×MV):=if es.any (fun kv=>kv.1=k) then es.map (fun kv=>if kv.1=k then(kv.1,x) else kv) else es++ [(k,x)]
theorem zP{value slice:Expr}{o i:Value}{ops:List Value}{T id:String}{Q:Value->Shared->Prop}(hT:s.TypeIs o T)
  (hl:typeLookup (.type T) "__getitem__"=pure (some (.builtin id)))(hg:ay s cX A (model prog w) Q (getItem o i))
  (hs:subscripted slice false o i=operate ops (getItem o i)):ay s cX A (model prog w) Q (subscriptTail value slice o i):=by
 refine af ?_;rw [getitemInPython_of_ne hT.not_modules];refine af (aj (wpAny_specialOf hT hl ?_));have fin:ay s cX A (model prog w) (fun r s₃=>ay s₃ cX A (model prog w) Q (letTemporaryGo value o r >>= fun O=>pure r)) (subscripted slice false o i):=by
  rw [hs];exact qo (au hg (fun r s₃ h₃=>af (aj (wpAny_letTemporaryGo (show ay _ _ _ _ _ _ from ax h₃)))) fun O O x=>x)
 first
  |exact ax (af fin)
  |exact af (ax (af fin))
  |exact af fin
noncomputable def zQ(k:Int)(m:MH):MO->Option (MV×MH)
 | .list xs=>if 0<=k/\k<2 ^ 62 then(xs[k.toNat]?).bind fun v=>some (v,m) else none
 | .ba b=>if 0<=k/\k<b.length/\b.length<=100000 then some (.int ((b.getD k.toNat 0).toNat:Int),m) else none
 | .dict es=>(lA k es).bind fun v=>some (v,m)
 |_=>none
noncomputable def zR(x y:MV):MM MV:=fun m=>y.int?.bind fun k=>match x with
 | .obj i=>zQ k m (m.ob i)
 | .tup xs=>if -1<=k/\k<2 ^ 62 then(xs[if k<0 then xs.length-1 else k.toNat]?).bind fun v=>some (v,m) else none
 | .str x=>if 0<=k/\k<x.cps.size/\k<2 ^ 62 then some (.str ⟨#[x.cps.getD k.toNat 0]⟩,m) else none
 |_=>none
def lX(prog:Program)(w:World)(g:Heap)(A:Around)(a b:Value)(s:Shared)(ρ:Nat->Addr)(m:MH)(r:Option (MV×MH)):Prop:=match r with
 |none=>True
 |some (z,m')=>∃T id,s.TypeIs a T/\typeLookup (.type T) "__getitem__"=pure (some (.builtin id))/\ay s cX A (model prog w) (lx prog w g fo a_ s ρ m z m') (getItem a b)
def UT(f:MV->MV->MM MV):Prop:=
 ∀prog w A g s ρ m x y a b,dj 0 A->OK prog w g s ρ m->a_ ρ m.n s.heap x a->a_ ρ m.n s.heap y b->lX prog w g A a b s ρ m (f x y m)
theorem lX.opt{γ:Type}{o:Option γ}{f:γ->Option (MV×MH)}(k:∀x,o=some x->lX prog w g A a b s ρ m (f x)):lX prog w g A a b s ρ m (o.bind f):=by
 cases o with
 |none=>exact True.intro
 |some x=>exact k x rfl
theorem lX.ite{c:Prop}[Decidable c]{r:Option (MV×MH)}(k:c->lX prog w g A a b s ρ m r):lX prog w g A a b s ρ m (if c then r else none):=by
 by_cases h:c
 ·rw [if_pos h];exact k h
 ·rw [if_neg h];exact True.intro
section
variable {ρ:Nat->Addr}{n:Nat}{h:Heap}
theorem fi.get(r:fi ρ n h es kvs)(k:Int):match lA k es with
  |some x=>∃v,valueAt kvs k=some v/\a_ ρ n h x v
  |none=>valueAt kvs k=none:=by
 induction r with
 |nil=>rfl
 | @cons k' x v fs es q _ ih=>
  rw [uy]
  by_cases hk:k'=k
  ·subst hk;rw [if_pos rfl];exact⟨v,by simp [valueAt],q⟩
  ·rw [if_neg hk];have:valueAt ((k',v)::es) k=valueAt es k:=by simp [valueAt,hk]
   rw [this];exact ih
theorem fi.lookup(r:fi ρ n h es kvs)(e:lA k es=some x):∃v,valueAt kvs k=some v/\a_ ρ n h x v:=by
 have:=r.get k;rw [e] at this;exact this
theorem fi.any(r:fi ρ n h es kvs)(k:Int):kvs.any (fun kv=>kv.1=k)=es.any (fun kv=>kv.1=k):=by
 induction r with
 |nil=>rfl
 |cons _ _ ih=>simp only [List.any_cons,ih]
theorem fi.append{fs:List (Int×MV)}{lvs:List (Int×Value)}(r:fi ρ n h es kvs)(q:fi ρ n h fs lvs):fi ρ n h (es++fs) (kvs++lvs):=by
 induction r with
 |nil=>exact q
 |cons a _ ih=>exact .cons a ih
theorem fi.put(r:fi ρ n h es kvs)(q:a_ ρ n h x v):fi ρ n h (B7 k x es) (stored kvs k v):=by
 delta B7 stored;rw [r.any k]
 split
 ·have key:∀ {es:List (Int×MV)} {kvs:List (Int×Value)},fi ρ n h es kvs->fi ρ n h (es.map (fun kv=>if kv.1=k then(kv.1,x) else kv)) (kvs.map (fun kv=>if kv.1=k then(kv.1,v) else kv)):=by
   intro es kvs r
   induction r with
   |nil=>exact .nil
   | @cons k' x' v' fs es q' _ ih=>
    simp only [List.map_cons]
    by_cases hk:k'=k
    ·rw [if_pos hk,if_pos hk];exact .cons q ih
    ·rw [if_neg hk,if_neg hk];exact .cons q' ih
  exact key r
 ·exact r.append (.cons q .nil)
theorem fi.length(r:fi ρ n h es kvs):es.length=kvs.length:=by
 induction r with
 |nil=>rfl
 |cons _ _ ih=>simp [ih]
end
theorem Qh:UT zR:=by
 intro prog w A g s ρ m x y a b hA S rx ry;refine .opt fun k hk=> ?_;obtain⟨t,rfl⟩:=ry.iF hk;refine rx.casesOn True.intro (fun O=>True.intro) (fun O O=>True.intro) (fun x t=> ?_) (fun O O=>True.intro) (@fun xs vs ta ep ha rs=> ?_) (fun O=>True.intro) (@fun i hi=> ?_) (fun O=>True.intro)
 ·exact .ite fun h=>by
   refine⟨"str",_,typeIs_str _ _ _,slot_str_getitem.lookup,aj (getItem_str (c:=x.cps.getD k.toNat 0) ?_ ?_ (gN S (.str _ _)))⟩
   ·rw [decide_eq_false (by exact abK h),decide_eq_false (by exact abL h)];rfl
   ·rw [show x.length=x.cps.size from rfl,ni h.1 h.2.1];have hl:k.toNat<x.cps.size:=by exact abM h
    simp [hl]
 ·exact .ite fun hk=> .opt fun v hv=>by
   obtain⟨u,hu,ru⟩:=rs.get hv;have ke:(if k<0 then xs.length-1 else k.toNat)<xs.length:=(List.getElem?_eq_some_iff.mp hv).1;have hlen:vs.toArray.size=xs.length:=by rw [fX,rs.length]
   refine⟨"tuple",_,⟨_,ha,rfl⟩,F.slot_tuple_getitem.lookup,aj (P.getItem_tuple (k:=if k<0 then xs.length-1 else k.toNat) (y:=u) ha (by exact abE hk) (by exact abF hk) ?_ (by simpa using hu) ⟨ρ,S,.refl,ru⟩)⟩;rw [hlen]
   by_cases h0:k<0
   ·obtain rfl:k= -1:=by exact abG hk h0
    rw [if_pos h0] at ke ⊢;exact Dr (by exact abH ke)
   ·rw [if_neg h0] at ke ⊢;exact ni (by exact abI h0) (by exact abJ ke h0)
 ·refine(?_:lX _ _ _ _ _ _ _ _ _ (zQ k m (m.ob i)));cases q1:m.ob i with
  |list xs=>
   exact .ite fun hk=> .opt fun v hv=>by
    obtain⟨vs,ep,h1,r1⟩:=S.lst hi q1;obtain⟨u,hu,ru⟩:=r1.get hv;have hl:s.heap.IsList (ρ i) vs.toArray:=⟨_,h1,rfl,_,rfl⟩;exact⟨_,_,hl.typeIs,slot_list_getitem.lookup,aj (wpAny_getItem_list (x:=u) hl hk.1 (by exact abD hk) (by simpa using hu) ⟨ρ,S,.refl,ru⟩)⟩
  |ba bb=>
   exact .ite fun h=>by
    have ho:=S.bar hi q1;refine⟨_,_,gj ho,BA.lV.lookup,aj (Na ho h.1 (by simpa using h.2.1) (by simpa using h.2.2) ?_)⟩;have:(bb.toArray.getD k.toNat 0)=bb.getD k.toNat 0:=by simp
    rw [this];exact gN S (.int _ _)
  |dict es=>
   exact .opt fun v hv=>by
    obtain⟨o,ho,r⟩:=S.ob i hi;rw [q1] at r;obtain⟨hc,sm,kvs,hd,hr⟩:=r;have hD:s.heap.DictOf (intKind prog w) (ρ i) kvs:=Heap.dictOf_iff.mpr ⟨o,ho,hd⟩;obtain⟨u,hu,ru⟩:=hr.lookup hv;exact⟨_,_,hD.typeIs,slot_dict_getitem.lookup,aj (wpAny_getItem_of (knd:=intKind prog w) (k:=k) (by simp [intKind,Value.isInt]) hD.mapOf hu (gN S ru))⟩
  |_=>exact True.intro
theorem bK{sg:Sg}{v i:Expr}{p:Pos}{cv ci:av->MM MV}(hv:cD n sg v cv)(hi:cD n sg i ci)(hs:∀o j,subscripted i false o j=operate [o,j] (getItem o j)):
  cD n sg (.Subscript v i p) (tC cv ci zR):=by
 intro prog w A g env fr s ρ m hA S F;refine .bind fun x m1 e1=> .bind fun y m2 e2=> .of fun b m' e=> ?_;refine jd ((hv _ _ A _ _ _ _ _ _ hA S F).step e1 fun a s1 ρ1 S1 V1 r1=> ?_);refine(hi _ _ A _ _ _ _ _ _ hA S1 (F.dQ V1)).step e2 fun c s2 ρ2 S2 V2 r2=> ?_;have h:=Qh _ _ A _ _ _ _ _ _ _ _ (hA.less (Nat.zero_le _)) S2 (r1.mono V2.mono) r2;rw [e] at h;obtain⟨T,id,hT,hl,h⟩:=h;exact zP hT hl (au h (fun v s3 ⟨ρ3,S3,V3,r3⟩=>⟨ρ3,S3,(V1.comp V2).comp V3,r3⟩) fun O O f=>f) (hs _ _)
noncomputable def t9:MV->Option (Option Int)
 | .none=>some none
 | .int k=>some (some k)
 |_=>none
noncomputable def Dz(lo hi:Option Int)(m:MH):MO->Option (MV×MH)
 | .list xs=>if xs.length<=100000 then some (.obj m.n,m.new (.list (c8 xs lo hi))) else none
 | .ba x=>if x.length<=100000 then some (.obj m.n,m.new (.ba (c8 x lo hi))) else none
 |_=>none
noncomputable def t_(x a b:MV):MM MV:=fun m=>(t9 a).bind fun lo=>(t9 b).bind fun hi=>match x with
 | .obj i=>Dz lo hi m (m.ob i)
 | .bytes x=>if x.length<=100000 then some (.bytes (c8 x lo hi),m) else none
 |_=>none
theorem bI.cut{vs:List Value}(r:bI ρ n h xs vs)(lo hi:Option Int):bI ρ n h (c8 xs lo hi) (c8 vs lo hi):=by
 unfold c8;rw [r.length];exact(r.drop _).take _
theorem a_.part{o:Option Int}(r:a_ ρ n h x v)(e:t9 x=some o):IsPart v o:=
 r.casesOn (motive_1:=fun x v O=>t9 x=some o->IsPart v o) (fun e=>d9 e▸ .none) (fun O=>bZ) (fun O O e=>d9 e▸ .int _ _) (fun O O=>bZ) (fun O O=>bZ) (fun O O=>bZ) (fun O=>bZ) (fun O=>bZ) (fun O=>bZ) e
end
section
variable {e o:Expr}{prog:Program}{w:World}{g:Heap}{A:Around}{hi lo:Option Expr}{p p':Pos}{ce ch cl co:av->MM MV}{v x y:MV}{s3:Shared}{ρ3:Nat->Addr}{m3:MH}{l:Addr}{va xa:Value}
def xu(n:Nat)(sg:Sg)(e:Option Expr)(c:av->MM MV):Prop:=
 ∀prog w A g env fr s ρ m,dj n A->OK prog w g s ρ m->dw sg env fr g s ρ m.n->Comes a_ s ρ m prog w g A (c fr m) (evalPart e env)
section
variable {n:Nat}{sg:Sg}
theorem fM:xu n sg none (Kc .none):=fun prog w A g env fr s ρ m hA S F=>Comes.pure S fun K k=>ax (k _ _ rfl rfl rfl .none)
theorem b9{c:av->MM MV}(h:cD n sg e c):xu n sg (some e) c:=fun prog w A g env fr s ρ m hA S F=>h _ _ A _ _ _ _ _ _ hA S F
noncomputable abbrev slO(l u:Value):Obj:= {cls:= .type "slice",data:= .fields #[l,u,.none]}
theorem wG{env:Env}{fr:av}{s:Shared}{ρ:Nat->Addr}{m m1 m2:MH}{K:Value->Shared->Prop}(hl:xu n sg lo cl)(hh:xu n sg hi ch)(hA:dj n A)(S:OK prog w g s ρ m)(F:dw sg env fr g s ρ m.n)
  (e1:cl fr m=some (x,m1))(e2:ch fr m1=some (y,m2))
  (k:∀a b t s' ρ',OK prog w g s' ρ' m2->dh fo s ρ m s' ρ' m2->a_ ρ' m2.n s'.heap x a->a_ ρ' m2.n s'.heap y b->s'.heap.IsSliceOf t a b .none->K (.ref t) s'):ay s cX A (model prog w) K (eval (.Slice lo hi none p) env):=by
 refine Ht ((hl _ _ A _ _ _ _ _ _ hA S F).step e1 fun a s1 ρ1 S1 V1 r1=> ?_);refine(hh _ _ A _ _ _ _ _ _ hA S1 (F.dQ V1)).step e2 fun b s2 ρ2 S2 V2 r2=> ?_;refine ax ?_;have hs:Sub s2.heap (s2.heap.push (slO a b)):=fun c o e=>gT _ e;have V3:dh fo s2 ρ2 m2 {s2 with heap:=s2.heap.push (slO a b)} ρ2 m2:= .grow hs rfl rfl;exact k a b s2.heap.objs.size _ ρ2 (S2.grow hs) ((V1.comp V2).comp V3) ((r1.mono V2.mono).mono V3.mono) (r2.mono V3.mono) ⟨_,iR _ rfl,rfl,rfl⟩
theorem Qi{z:MV}{a ya za:Value}(S3:OK prog w g s3 ρ3 m3)(r1:a_ ρ3 m3.n s3.heap x a)(r2:a_ ρ3 m3.n s3.heap y ya)(r3:a_ ρ3 m3.n s3.heap z za)(zS:s3.heap.IsSliceOf l ya za .none):
  lX prog w g A a (.ref l) s3 ρ3 m3 (t_ x y z m3):=by
 refine .opt fun Bo q1=> .opt fun pA q2=> ?_;refine r1.casesOn True.intro (fun O=>True.intro) (fun O O=>True.intro) (fun O O=>True.intro) (fun x t=> ?_) (fun O O=>True.intro) (fun O=>True.intro) (@fun i hi=> ?_) (fun O=>True.intro)
 ·exact .ite fun hz=>by
   have e':KBy.picked x.toArray Bo pA=(c8 x Bo pA).toArray:=by rw [KBc.picked_eq];simp only [c8,List.size_toArray]
   refine⟨_,"bytes.__getitem__",typeIs_bytes _ _ _,FB.slot_bytes_getitem.lookup,aj (getItem_meets (typeIs_bytes _ _ _) rfl FB.slot_bytes_getitem FB.entry_bytes_getitem (FB.args_bytes_getitem_2 _ _) (KBc.meets_slice2 x.toArray t l (r2.part q1) (r3.part q2)) ⟨zS, ?_,fun t' k=> ?_⟩)⟩
   ·rw [e',fX,sizeLine_eq];have:=ri x Bo pA;exact Wz hz this
   ·rw [e'];exact gN S3 (.bytes _ _)
 ·refine(?_:lX _ _ _ _ _ _ _ _ _ (Dz Bo pA m3 (m3.ob i)));cases q3:m3.ob i with
  |list xs=>
   exact .ite fun hz=>by
    obtain⟨vs,ep,ho,rs⟩:=S3.lst hi q3;have hL:s3.heap.IsList (ρ3 i) vs.toArray:=⟨_,ho,rfl,_,rfl⟩;refine⟨_,"list.__getitem__",hL.typeIs,slot_list_getitem.lookup,aj (wpAny_getItem_list_slice hL zS (r2.part q1) (r3.part q2) .none (fun e=>nomatch e) ?_ (by rw [fX, <- rs.length,sizeLine_eq];exact Hb hz))⟩;rw [slicePick_plain];refine td (K:=lx prog w g fo a_ s3 ρ3 m3 (.obj m3.n) (m3.new (.list (c8 xs Bo pA)))) (mo:= .list (c8 xs Bo pA)) (t:=s3.toks) S3 rfl (fun M=>⟨c8 vs Bo pA,0, ?_,(rs.cut Bo pA).mono M⟩) fun ρ' s' S' V'=>⟨ρ',S',V',.obj (gA _)⟩;simp only [c8,List.size_toArray]
  |ba x=>
   exact .ite fun hz=>by
    have ho:=S3.bar hi q3;refine⟨_,"bytearray.__getitem__",gj ho,BA.lV.lookup,aj (KI ho zS (r2.part q1) (r3.part q2) hz ?_)⟩;exact td (K:=lx prog w g fo a_ s3 ρ3 m3 (.obj m3.n) (m3.new (.ba (c8 x Bo pA)))) (mo:= .ba (c8 x Bo pA)) (t:=s3.toks) S3 rfl (fun M=>rfl) fun ρ' s' S' V'=>⟨ρ',S',V',.obj (gA _)⟩
  |_=>exact True.intro
noncomputable def Nc(cv cl ch:av->MM MV):av->MM MV:=fun fr=>MM.bind (cv fr) fun x=>MM.bind (cl fr) fun y=>MM.bind (ch fr) fun z=>t_ x y z
theorem eB{v:Expr}{cv:av->MM MV}(hv:cD n sg v cv)(hl:xu n sg lo cl)(hh:xu n sg hi ch):
  cD n sg (.Subscript v (.Slice lo hi none p') p) (Nc cv cl ch):=by
 intro prog w A g env fr s ρ m hA S F;refine .bind fun x m1 e1=> .bind fun y m2 e2=> .bind fun z m3 e3=> .of fun b m' e=> ?_;refine jd ((hv _ _ A _ _ _ _ _ _ hA S F).step e1 fun a s1 ρ1 S1 V1 r1=> ?_);refine wG hl hh hA S1 (F.dQ V1) e2 e3 fun ya za sl s3 ρ3 S3 V3 r2 r3 zS=> ?_;have h:=Qi (A:=A) (l:=sl) S3 (r1.mono V3.mono) r2 r3 zS;rw [e] at h;obtain⟨T,id,hT,hl,h⟩:=h;exact zP hT hl (au h (fun v s4 ⟨ρ4,S4,V4,r4⟩=>⟨ρ4,S4,(V1.comp V3).comp V4,r4⟩) fun O O f=>f) rfl
noncomputable def DA(k:Int)(y:MV)(i:Nat)(m:MH):MO->Option (Unit×MH)
 | .ba b=>y.int?.bind fun v=>if 0<=k/\k<b.length/\b.length<=100000/\0<=v/\v<256/\i<m.n then some ((),m.set i (.ba (b.set k.toNat v.toNat.toUInt8))) else none
 | .dict es=>if es.length<=100000/\i<m.n then some ((),m.set i (.dict (B7 k y es))) else none
 |_=>none
noncomputable def Nd(x z y:MV):MM Unit:=fun m=>x.ij.bind fun i=>z.int?.bind fun k=>DA k y i m (m.ob i)
theorem Qj{k:MV}{ka:Value}(S3:OK prog w g s3 ρ3 m3)(r2:a_ ρ3 m3.n s3.heap x xa)(r3:a_ ρ3 m3.n s3.heap k ka)(r1:a_ ρ3 m3.n s3.heap v va):
  Comes (fun O O O O O=>True) s3 ρ3 m3 prog w g A (Nd x k v m3) (setItem xa ka va):=by
 refine .opt fun j hx=> .opt fun kk hk=> ?_;obtain⟨hj,rfl⟩:=r2.ik hx;obtain⟨tk,rfl⟩:=r3.iF hk;refine(?_:Comes _ _ _ _ _ _ _ _ (DA kk v j m3 (m3.ob j)) _);cases q1:m3.ob j with
 |ba bb=>
  exact .opt fun vv hv=> .ite fun hz=>by
   obtain⟨_,rfl⟩:=r1.iF hv;refine Qg (S3.bar hj q1) hz.1 hz.2.1 hz.2.2.1 hz.2.2.2.1 hz.2.2.2.2.1 fun h' hH hs=> ?_;have kp:∀a o,a≠ρ3 j->s3.heap.get? a=some o->h'.get? a=some o:=fun a o ha eo=>(hs.2 a ha).trans eo;exact⟨ρ3,S3.put (s':= {s3 with heap:=h'}) hj kp hH fun M=>rfl,.put S3 (s':= {s3 with heap:=h'}) hj kp ⟨_,hH⟩ rfl rfl,trivial⟩
 |dict es=>
  exact .ite fun hz=>by
   obtain⟨o,ho,r⟩:=S3.ob j hj;rw [q1] at r;obtain⟨hc,sm,kvs,hd,hr⟩:=r;have hD:s3.heap.DictOf (intKind prog w) (ρ3 j) kvs:=Heap.dictOf_iff.mpr ⟨o,ho,hd⟩;refine aj (wpAny_setItem_pairs (knd:=intKind prog w) (k:=kk) (hsz:=by rw [<- hr.length,sizeLine_eq];exact WA hz) (by simp [intKind,Value.isInt]) hD fun h' hD' hs=> ?_);obtain⟨o',hH,Kn⟩:=Heap.dictOf_iff.mp hD';have kp:∀a o,a≠ρ3 j->s3.heap.get? a=some o->h'.get? a=some o:=fun a o ha eo=>(hs.2 a ha).trans eo;have adY:o'.cls= .type "dict":=by
    obtain⟨_,_,hx,_⟩:=Kn
    first|exact hx|exact hx.1|exact hx.2
   exact⟨ρ3,S3.put (s':= {s3 with heap:=h',toks:=s3.toks+1}) hj kp hH fun M=>⟨adY,sm,_,Kn,(hr.put r1).mono M⟩,.put S3 (s':= {s3 with heap:=h',toks:=s3.toks+1}) hj kp ⟨_,hH⟩ rfl rfl,trivial⟩
 |_=>exact True.intro
theorem wH{i:Expr}{ci:av->MM MV}(he:cD n sg e ce)(ho:cD n sg o co)(hi:cD n sg i ci)(hn:lR e=true):
  fY n sg (.Assign [.Subscript o i p] e p') (SM.use ce fun v=>SM.use co fun x=>SM.use ci fun k=>SM.act (Nd x k v)):=by
 intro prog w A g env fr s ρ m hA S F;refine .use fun v m1 e1=> .use fun x m2 e2=> .use fun k m3 e3=> .act fun u m4 e4=> ?_;refine lr ((he _ _ A _ _ _ _ _ _ hA S F).step e1 fun va s1 ρ1 S1 V1 r1=> ?_) (ky hn);refine(ho _ _ A _ _ _ _ _ _ hA S1 (F.dQ V1)).step e2 fun xa s2 ρ2 S2 V2 r2=> ?_;refine(hi _ _ A _ _ _ _ _ _ hA S2 ((F.dQ V1).dQ V2)).step e3 fun ka s3 ρ3 S3 V3 r3=> ?_;exact(Qj S3 (r2.mono V3.mono) r3 ((r1.mono V2.mono).mono V3.mono)).step e4 fun O s4 ρ4 S4 V4 O=>⟨ρ4,S4,(((V1.comp V2).comp V3).comp V4).weak,.next,(F.dQ ((V1.comp V2).comp V3)).dQ V4⟩
noncomputable def Nf(x y z v:MV):MM Unit:=fun m=>x.ij.bind fun i=>y.int?.bind fun a=>z.int?.bind fun b=>v.qv.bind fun x=>(m.ob i).Kq.bind fun y=>
 if 0<=a/\a<=b/\b<=y.length/\x.length=b.toNat-a.toNat/\y.length<=100000/\i<m.n then some ((),m.set i (.ba (y.take a.toNat++x++y.drop b.toNat))) else none
theorem Ng{a b:MV}{aa bb:Value}(S3:OK prog w g s3 ρ3 m3)(r2:a_ ρ3 m3.n s3.heap x xa)(r3:a_ ρ3 m3.n s3.heap a aa)(r4:a_ ρ3 m3.n s3.heap b bb)(r1:a_ ρ3 m3.n s3.heap v va)
  (zS:s3.heap.IsSliceOf l aa bb .none):Comes (fun O O O O O=>True) s3 ρ3 m3 prog w g A (Nf x a b v m3) (setItem xa (.ref l) va):=by
 refine .opt fun j hx=> .opt fun ka ha=> .opt fun kb hb=> .opt fun x hv=> .opt fun y q1=> .ite fun hz=> ?_;obtain⟨hj,rfl⟩:=r2.ik hx;obtain⟨_,rfl⟩:=r3.iF ha;obtain⟨_,rfl⟩:=r4.iF hb;obtain⟨_,rfl⟩:=r1.u6 hv;obtain⟨st,rfl⟩:∃st:Nat,ka=st:=⟨ka.toNat,by exact WO hz⟩;obtain⟨en,rfl⟩:∃en:Nat,kb=en:=⟨kb.toNat,by exact WQ hz⟩;refine Dx (S3.bar hj (MO.Un q1)) zS (.int _ _) (.int _ _) (by exact WR hz) (by exact WS hz) (by simpa using hz.2.2.2.1) hz.2.2.2.2.1 fun h' hH hs=> ?_;exact⟨ρ3,S3.put (s':= {s3 with heap:=h'}) hj hs hH fun M=>rfl,.put S3 (s':= {s3 with heap:=h'}) hj hs ⟨_,hH⟩ rfl rfl,trivial⟩
theorem zT{p'':Pos}(he:cD n sg e ce)(ho:cD n sg o co)(hl:xu n sg lo cl)(hh:xu n sg hi ch)(hn:lR e=true):
  fY n sg (.Assign [.Subscript o (.Slice lo hi none p'') p] e p') (SM.use ce fun v=>SM.use co fun x=>SM.use cl fun a=>SM.use ch fun b=>SM.act (Nf x a b v)):=by
 intro prog w A g env fr s ρ m hA S F;refine .use fun v m1 e1=> .use fun x m2 e2=> .use fun a m3 e3=> .use fun b m4 e4=> .act fun u m5 e5=> ?_;refine lr ((he _ _ A _ _ _ _ _ _ hA S F).step e1 fun va s1 ρ1 S1 V1 r1=> ?_) (ky hn);refine(ho _ _ A _ _ _ _ _ _ hA S1 (F.dQ V1)).step e2 fun xa s2 ρ2 S2 V2 r2=> ?_;refine wG hl hh hA S2 ((F.dQ V1).dQ V2) e3 e4 fun aa bb sl s3 ρ3 S3 V3 r3 r4 zS=> ?_;exact(Ng S3 (r2.mono V3.mono) r3 r4 ((r1.mono V2.mono).mono V3.mono) zS).step e5 fun O s4 ρ4 S4 V4 O=>⟨ρ4,S4,(((V1.comp V2).comp V3).comp V4).weak,.next,(F.dQ ((V1.comp V2).comp V3)).dQ V4⟩
end
end
section
set_option backward.match.sparseCases false
variable {ρ:Nat->Addr}{n t:Nat}{h h':Heap}{xs:List MV}{vs:List Value}{f:Value}
noncomputable def intsOf:List MV->Option (List Int)
 | []=>some []
 |x::r=>x.int?.bind fun n=>(intsOf r).bind fun ns=>some (n::ns)
def Jx(vs:List Value)(ns:List Int):Prop:=∃ps:List (Int×Tok),vs=ps.map (fun p=>Value.int p.1 p.2)/\ps.map (·.1)=ns
theorem F2.ints(r:F2 (a_ ρ n h) xs vs):∀ {ns:List Int},intsOf xs=some ns->Jx vs ns:=by
 induction r with
 |nil=>exact fun e=>⟨[],rfl,d9 e⟩
 | @cons x v xs vs r _ ih=>
  intro ns e;obtain⟨k,hk,e⟩:=bj e;obtain⟨ms,hm,e⟩:=bj e;obtain⟨t,rfl⟩:=r.iF hk;obtain⟨ps,rfl,q⟩:=ih hm;exact⟨(k,t)::ps,rfl,(congrArg (k:: ·) q).trans (d9 e)⟩
theorem bI.ints{ns:List Int}(r:bI ρ n h xs vs)(e:intsOf xs=some ns):Jx vs ns:=r.f2.ints e
theorem IntsAre.wI:∀ps:List (Int×Tok),IntsAre (ps.map fun p=>Value.int p.1 p.2) (ps.map (·.1))
 | []=> .nil
 |p::r=> .cons _ _ (IntsAre.wI r)
theorem uz(ps:List (Int×Tok))(i:Nat):numAt ps.toArray i=(ps.map (·.1)).getD i 0:=by
 unfold numAt;rw [List.getElem?_toArray,pj,ja]
section
variable {prog:Program}{w:World}{g:Heap}{A:Around}{s s':Shared}{ρ ρ':Nat->Addr}{m m':MH}
theorem doneK{T:Addr->Prop}{b:MV}{v:Value}(S:OK prog w g s ρ m)(k:Sub s.heap h')(r:lu ρ m.n s.heap ρ m.n h'->a_ ρ m.n h' b v):lx prog w g T a_ s ρ m b m v {s with heap:=h',toks:=t}:=
 ⟨ρ,S.grow (s':= {s with heap:=h',toks:=t}) k,.grow (s':= {s with heap:=h',toks:=t}) k rfl rfl,r ⟨fun O O=>rfl,dU _,fun a o e O=>k a o e⟩⟩
theorem xw{o:Obj}{mo:MO}{a:Addr}(S:OK prog w g s ρ m)(k:Sub s.heap h')(ha:h'.get? a=some o)(hn:s.heap.get? a=none)
  (hr:lu ρ m.n s.heap (eQ ρ m.n a) (m.n+1) h'->mT prog w (eQ ρ m.n a) (m.n+1) h' m.n mo o):lx prog w g fo a_ s ρ m (.obj m.n) (m.new mo) (.ref a) {s with heap:=h',toks:=t}:=by
 have S':OK prog w g {s with heap:=h',toks:=t} ρ m:=S.grow (s':= {s with heap:=h',toks:=t}) k;have V:dh fo s ρ m {s with heap:=h',toks:=t} ρ m:= .grow (s':= {s with heap:=h',toks:=t}) k rfl rfl;refine⟨eQ ρ m.n a,S'.new (a:=a) ha (S.pv hn) (S.lD hn) fun M=>hr ⟨fun i hi=>fD hi,Nat.le_succ _,fun b o e O=>k b o e⟩,V.wc hn, ?_⟩;have:=a_.obj (ρ:=eQ ρ m.n a) (n:=m.n+1) (h:=h') (i:=m.n) (gA _);rw [el] at this;exact this
end
noncomputable def so(c:MV->MM MV):List MV->MM MV
 | [x]=>c x
 |_=>MM.fail
noncomputable def yj(c:MV->MV->MM MV):List MV->MM MV
 | [x,y]=>c x y
 |_=>MM.fail
theorem zU{c:MV->MM MV}(h:∀(prog:Program) (w:World) (A:Around) (g:Heap) (s:Shared) (ρ:Nat->Addr) (m:MH) (x:MV) (v:Value),dj 0 A->OK prog w g s ρ m->a_ ρ m.n s.heap x v->Comes a_ s ρ m prog w g A (c x m) (call f [v])):dX 0 f (so c):=by
 intro prog w A g s ρ m xs vs hA S r;refine r.casesOn True.intro (fun r rs=> ?_)
 ·cases rs with
  |cons _ _=>exact True.intro
  |nil=>exact h _ _ _ _ _ _ _ _ _ hA S r
theorem Ik{c:MV->MV->MM MV}(h:∀(prog:Program) (w:World) (A:Around) (g:Heap) (s:Shared) (ρ:Nat->Addr) (m:MH) (x y:MV) (v u:Value),dj 0 A->OK prog w g s ρ m->a_ ρ m.n s.heap x v->a_ ρ m.n s.heap y u->Comes a_ s ρ m prog w g A (c x y m) (call f [v,u])):dX 0 f (yj c):=by
 intro prog w A g s ρ m xs vs hA S r;cases r with
 |nil=>exact True.intro
 |cons r rs=>
  cases rs with
  |nil=>exact True.intro
  |cons r2 rs=>
   cases rs with
   |cons _ _=>exact True.intro
   |nil=>exact h _ _ _ _ _ _ _ _ _ _ _ hA S r r2
noncomputable def uA(m:MH):MO->Option (MV×MH)
 | .list xs=>if xs.length<=100000 then some (.int xs.length,m) else none
 | .ba b=>if b.length<=100000 then some (.int b.length,m) else none
 | .tR k=>if k<=100000 then some (.int k,m) else none
 |_=>none
noncomputable def UU(x:MV):MM MV:=fun m=>match x with
 | .obj i=>uA m (m.ob i)
 | .bytes b=>if b.length<=100000 then some (.int b.length,m) else none
 | .tup xs=>if xs.length<=100000 then some (.int xs.length,m) else none
 |_=>none
noncomputable def vz:List MV->MM MV:=so UU
theorem ez:dX 0 (.builtin "len") vz:=zU fun prog w A g s ρ m x v hA S r=>by
 refine r.casesOn True.intro (fun O=>True.intro) (fun O O=>True.intro) (fun O O=>True.intro) (fun bb t=> ?_) (@fun ys us a ep ha rs=> ?_) (fun O=>True.intro) (@fun i hi=> ?_) (fun O=>True.intro)
 ·exact .ite fun hz=>by
   refine aj (len_bytes (by rw [fX];exact acq hz) ?_);rw [fX];exact gN S (.int _ _)
 ·exact .ite fun hz=>by
   refine aj (P.len_tuple (t:=a) ha (by rw [fX, <- rs.length];exact RY hz) ?_);rw [fX, <- rs.length];exact gN S (.int _ _)
 ·refine(?_:Comes _ _ _ _ _ _ _ _ (uA m (m.ob i)) _);cases q:m.ob i with
  |list ys=>
   exact .ite fun hz=>by
    obtain⟨us,ep,ho,rs⟩:=S.lst hi q;refine aj (call_len_list (items:=us.toArray) ⟨_,ho,rfl,_,rfl⟩ (by rw [fX, <- rs.length];exact Pq hz) ?_);rw [fX, <- rs.length];exact gN S (.int _ _)
  |ba bb=>
   exact .ite fun hz=>by
    refine aj (Qf (S.bar hi q) (by simpa using hz) ?_);rw [fX];exact gN S (.int _ _)
  |tR k=>
   exact .ite fun hz=>by
    obtain⟨o,ho,r⟩:=S.ob i hi;rw [q] at r;obtain⟨hex,es,ep,t,hd,hf,rfl⟩:=r;exact aj (call_len_set ho hex hd hf (by exact Pq hz) (gN S (.int _ _)))
  |_=>exact True.intro
noncomputable def yJ:List MV->MM MV
 | [y]=>fun m=>y.int?.bind fun b=>some (.pk 0 b,m)
 | [x,y]=>fun m=>x.int?.bind fun a=>y.int?.bind fun b=>some (.pk a b,m)
 |_=>MM.fail
theorem kF:dX 0 (.type "range") yJ:=by
 intro prog w A g s ρ m xs vs hA S r;cases r with
 |nil=>exact True.intro
 |cons r rs=>
  cases rs with
  |nil=>
   exact .opt fun b hb=>by
    obtain⟨_,rfl⟩:=r.iF hb;exact aj (call_range_1 (doneK S (fun a o e=>gT _ e) fun O=> .pk (iR _ rfl)))
  |cons r2 rs=>
   cases rs with
   |cons _ _=>exact True.intro
   |nil=>
    exact .opt fun a ha=> .opt fun b hb=>by
     obtain⟨_,rfl⟩:=r.iF ha;obtain⟨_,rfl⟩:=r2.iF hb;exact aj (call_range_2 (doneK S (fun a o e=>gT _ e) fun O=> .pk (iR _ rfl)))
noncomputable def Nh(x:MV):MM MV:=fun m=>x.u5.bind fun x=>if x.cps.size=1 then some (.int (x.cps.getD 0 0:Nat),m) else none
theorem Qk:dX 0 (.builtin "ord") (so Nh):=zU fun prog w A g s ρ m x v hA S r=> .opt fun x hx=> .ite fun hz=>by
 obtain⟨t,rfl⟩:=r.xf hx;obtain⟨cps⟩:=x;obtain⟨c,rfl⟩:∃c,cps= #[c]:=Array.size_eq_one_iff.mp hz;exact aj (P.ord_of_char (gN S (.int _ _)))
noncomputable def SD(x:MV):MM MV:=fun m=>x.int?.bind fun i=>if 0<=i/\i<=0x10FFFF then some (.str ⟨#[i.toNat]⟩,m) else none
theorem Ql:dX 0 (.builtin "chr") (so SD):=zU fun prog w A g s ρ m x v hA S r=> .opt fun i hi=> .ite fun hz=>by
 obtain⟨t,rfl⟩:=r.iF hi;exact aj (P.chr_of_int (by rw [decide_eq_false (by exact acr hz),decide_eq_false (by exact acs hz)];rfl) (gN S (.str _ _)))
noncomputable def UW(x y:MV):MM MV:=fun m=>x.int?.bind fun a=>y.int?.bind fun b=>some (.int (if b>a then b else a),m)
noncomputable def UX(x y:MV):MM MV:=fun m=>x.int?.bind fun a=>y.int?.bind fun b=>some (.int (if b<a then b else a),m)
noncomputable def iW:List Int->Int
 | []=>0
 | [a]=>a
 |a::r=>max a (iW r)
noncomputable def Il(m:MH):Option (List Int)->Option (MV×MH)
 |some (n::ns)=>some (.int (iW (n::ns)),m)
 |_=>none
noncomputable def Ni:List MV->MM MV
 | [x,y]=>UW x y
 | [x]=>fun m=>x.ij.bind fun i=>(m.ob i).gR.bind fun xs=>Il m (intsOf xs)
 |_=>MM.fail
theorem DB:dX 0 (.builtin "min") (yj UX):=Ik fun prog w A g s ρ m x y v u hA S r r2=> .opt fun a ha=> .opt fun b hb=>by
 obtain⟨t,rfl⟩:=r.iF ha;obtain⟨u,rfl⟩:=r2.iF hb;refine aj (min_two_ints hA.2.2 fun h' tk hk=>doneK S hk fun O=> ?_)
 split <;> exact .int _ _
noncomputable def DC(x:MV):MM MV:=fun m=>match x with
 | .obj i=>(m.ob i).gR.bind fun xs=>if xs.length<=100000 then some (.obj m.n,m.new (.list xs)) else none
 | .tup xs=>if xs.length<=100000 then some (.obj m.n,m.new (.list xs)) else none
 |_=>none
theorem Fx:dX 0 (.type "list") (so DC):=zU fun prog w A g s ρ m x v hA S r=>by
 refine r.casesOn True.intro (fun O=>True.intro) (fun O O=>True.intro) (fun O O=>True.intro) (fun O O=>True.intro) (fun ha rs=> ?_) (fun O=>True.intro) (@fun i hi=> ?_) (fun O=>True.intro)
 ·exact .ite fun hz=>by
   refine aj (call_list_seq (T:="tuple") _ (.inr rfl) ha rfl rfl (fun h' c hk hD=> ?_) (by rw [fX, <- rs.length,sizeLine_eq];exact Hb hz));exact xw (t:=s.toks) S hk hD (cA _) fun M=>⟨_,_,rfl,rs.mono M⟩
 ·exact .opt fun xs q=> .ite fun hz=>by
   obtain⟨us,ep,ho,rs⟩:=S.lst hi (MO.jO q);refine aj (call_list_seq (T:="list") (ρ i) (.inl rfl) ho rfl rfl (fun h' c hk hD=> ?_) (by rw [fX, <- rs.length,sizeLine_eq];exact Hb hz));exact xw (t:=s.toks) S hk hD (cA _) fun M=>⟨_,_,rfl,rs.mono M⟩
noncomputable def Jy(x:MV):MM MV:=fun m=>x.ij.bind fun i=>(m.ob i).gR.bind fun xs=>if xs.length<=100000 then some (.tup xs,m) else none
theorem th:dX 0 (.type "tuple") (so Jy):=zU fun prog w A g s ρ m x v hA S r=> .opt fun i hi=> .opt fun xs q=> .ite fun hz=>by
 obtain⟨hi,rfl⟩:=r.ik hi;obtain⟨us,ep,ho,rs⟩:=S.lst hi (MO.jO q);refine aj (call_tuple_list (items:=us.toArray) ⟨_,ho,rfl,_,rfl⟩ (fun h' hk=> ?_) (by rw [fX, <- rs.length,sizeLine_eq];exact Hb hz));have hs:Sub s.heap (h'.push (tS us 0)):=fun a o e=>gT _ (hk a o e);exact doneK (t:=s.toks) S hs fun M=> .tup (e:=0) (iR _ rfl) (rs.mono M)
end
section
set_option backward.match.sparseCases false
noncomputable def Fy(ns:List Int):List UInt8:=ns.map fun n=>n.toNat.toUInt8
noncomputable def qe(m:MH):MO->Option (MV×MH)
 | .ba b=>if b.length<=100000 then some (.bytes b,m) else none
 | .list xs=>(intsOf xs).bind fun ns=>if ns.length<=100000/\(∀n∈ns,0<=n/\n<256) then some (.bytes (Fy ns),m) else none
 |_=>none
noncomputable def oU(x:MV):MM MV:=fun m=>match x with
 | .bytes b=>some (.bytes b,m)
 | .int n=>if 0<=n/\n<=100000 then some (.bytes (List.replicate n.toNat 0),m) else none
 | .obj i=>qe m (m.ob i)
 |_=>none
theorem jv:dX 0 (.type "bytes") (so oU):=zU fun prog w A g s ρ m x v hA S r=>by
 refine r.casesOn True.intro (fun O=>True.intro) (fun k t=> ?_) (fun O O=>True.intro) (fun bb t=>aj (sd fun A E=>wz ⟨_,_,rfl,ρ,S,.refl,.bytes _ _⟩)) (fun O O=>True.intro) (fun O=>True.intro) (@fun i hi=> ?_) (fun O=>True.intro)
 ·exact .ite fun hz=>by
   obtain⟨n,rfl⟩:∃n:Nat,k=n:=⟨k.toNat,by exact Rh hz⟩;obtain⟨x,hx⟩:∃x,x=Value.int (n:Int) t:=⟨_,rfl⟩;rw [<- hx];refine aj (sd fun A E=>zF hx (by exact Ri hz) fun t' kk=>⟨_,_,rfl, ?_⟩);have:=gN (t:=kk) (T:=fo) (v:= .bytes (List.replicate n 0).toArray t') S (.bytes (List.replicate n 0) t');rw [List.toArray_replicate] at this;exact this
 ·refine(?_:Comes _ _ _ _ _ _ _ _ (qe m (m.ob i)) _);cases q:m.ob i with
  |ba bb=>exact .ite fun hz=>aj (sd fun A E=>Bf (S.bar hi q) rfl rfl (by simpa using hz) fun t' kk=>⟨_,_,rfl,gN S (.bytes _ _)⟩)
  |list xs=>
   exact .opt fun ns q2=> .ite fun hz=>by
    obtain⟨us,ep,ho,rs⟩:=S.lst hi q;obtain⟨ps,rfl,rfl⟩:=rs.ints q2;refine aj (call_bytes_ints (ns:=ps.map (·.1)) ⟨_,ho,rfl,_,rfl⟩ (IntsAre.wI ps) hz.2 (by rw [eW,sizeLine_eq];have:=hz.1;rw [eW] at this;exact Hb this) hA.2.2 fun h' t kk hk=> ?_);exact doneK S hk fun O=> .bytes (Fy (ps.map (·.1))) t
  |_=>exact True.intro
noncomputable def mBa:List MV->MM MV
 | []=>fun m=>some (.obj m.n,m.new (.ba []))
 | [x]=>fun m=>x.int?.bind fun n=>if 0<=n/\n<=100000 then some (.obj m.n,m.new (.ba (List.replicate n.toNat 0))) else none
 |_=>MM.fail
theorem Nj:dX 0 (.type "bytearray") mBa:=by
 intro prog w A g s ρ m xs vs hA S r;cases r with
 |nil=>exact KJ fun h' hH hk=>xw (t:=s.toks) S hk hH (cA _) fun M=>rfl
 |cons r rs=>
  cases rs with
  |cons _ _=>exact True.intro
  |nil=>
   exact .opt fun k hk=> .ite fun hz=>by
    obtain⟨t,rfl⟩:=r.iF hk;obtain⟨n,rfl⟩:∃n:Nat,k=n:=⟨k.toNat,by exact Rh hz⟩;exact Dw (by exact Ri hz) fun h' hH hk=>xw (t:=s.toks) S hk hH (cA _) fun M=>rfl
noncomputable def Jz(x:MV):MM MV:=fun m=>match x with
 | .obj i=>(m.ob i).gR.bind fun xs=>(intsOf xs).bind fun ns=>if(∀n∈ns,0<=n)/\ns.sum<2 ^ 62 then some (.int ns.sum,m) else none
 | .bytes b=>if b.length<=100000 then some (.int (b.map fun c=>(c.toNat:Int)).sum,m) else none
 |_=>none
theorem oV:∀ {ns:List Int},(∀n∈ns,0<=n)->0<=ns.sum
 | [],_=>by simp
 |n::ns,h=>by
  rw [List.sum_cons];have:=h n (.head _);have:=oV fun m hm=>h m (.tail _ hm);exact Xf (by assumption) this
theorem Nk:∀ {ns:List Int} (k:Nat),(∀n∈ns,0<=n)->0<=(ns.take k).sum/\(ns.take k).sum<=ns.sum:=fun {ns} k h=>by
 have h1:=oV (ns:=ns.take k) fun n hn=>h n (List.mem_of_mem_take hn);have h2:=oV (ns:=ns.drop k) fun n hn=>h n (List.mem_of_mem_drop hn);have h3:ns.sum=(ns.take k).sum+(ns.drop k).sum:=by rw [<- List.sum_append,List.take_append_drop]
 exact Xg h1 h2 h3
theorem Fz:∀ {ns:List Int} {n:Int},(∀n∈ns,0<=n)->n∈ns->n<=ns.sum
 |m::ns,n,h,hn=>by
  rw [List.sum_cons];have:=h m (.head _);have h2:=oV fun m hm=>h m (.tail _ hm);rcases List.mem_cons.mp hn with rfl|hn
  ·exact Xh h2
  ·have:=Fz (fun m hm=>h m (.tail _ hm)) hn;exact Xi (by assumption) this
theorem qG(ks:List Int):∀i:Nat,i<=ks.length->preSum (fun j=>ks.getD j 0) i=(ks.take i).sum:=KBmo.pre_take ks
theorem zV{ns:List Int}(h:∀n∈ns,0<=n)(hz:ns.sum<2 ^ 62):∀j,j<ns.length->InLong (ns.getD j 0)/\InLong (preSum (fun j=>ns.getD j 0) (j+1)):=fun j hj=>by
 rw [qG ns (j+1) hj];have h1:=Nk (j+1) h;have hm:ns.getD j 0∈ns:=by rw [pj,iq hj];exact List.getElem_mem hj
 have h2:=Fz h hm;have h3:=h _ hm;exact Xj hz h1 h2 h3
theorem ua:∀b:List UInt8,(b.map fun c=>(c.toNat:Int)).sum<=255*b.length
 | []=>by simp
 |c::r=>by
  have:=ua r;have:=c.toNat_lt;exact Xk (by assumption) this
theorem DD:dX 0 (.builtin "sum") (so Jz):=zU fun prog w A g s ρ m x v hA S r=>by
 refine r.casesOn True.intro (fun O=>True.intro) (fun O O=>True.intro) (fun O O=>True.intro) (fun bb t=> ?_) (fun O O=>True.intro) (fun O=>True.intro) (@fun i hi=> ?_) (fun O=>True.intro)
 ·refine .ite fun hz=> ?_;have hnn:∀n∈(bb.map fun c=>(c.toNat:Int)),0<=n:=fun n hn=>by
   obtain⟨c,_,rfl⟩:=List.mem_map.mp hn;exact O2
  have hle:=ua bb;refine aj (call_sum_walk (KBw.pyIter_bytes ?_));have W:=KBw.walks (prog:=prog) (w:=w) (A:=A.in1) hA.2.2 s.heap.objs.size bb.toArray t;refine⟨s.heap.objs.size, [s.heap.objs.size], [s.heap.objs.size],bb.toArray.size,_,_,fun j=>(bb.map fun c=>(c.toNat:Int)).getD j 0,rfl,W,⟨_,iR _ rfl,rfl,rfl⟩, ?_, ?_, ?_, ?_⟩
  ·intro a ha;rw [List.mem_singleton.mp ha,Heap.size_push];exact gA _
  ·rintro i v ⟨c,u,hc,rfl⟩;have HB:bb[i]? =some c:=by simpa using hc
   exact⟨u,by simp [List.getD_eq_getElem?_getD,HB]⟩
  ·intro j hj;exact zV hnn (by exact Xl hz hle) j (by simpa using hj)
  ·intro h' tk t' hk;rw [List.size_toArray,qG _ _ (by simp),List.take_of_length_le (by simp)];exact doneK S (fun a o e=>hk a o (fun hm=>by rw [List.mem_singleton.mp hm,cA] at e;cases e) (gT _ e)) fun O=> .int _ _
 ·refine .opt fun xs q=> .opt fun ns q2=> .ite fun hz=> ?_;obtain⟨us,ep,ho,rs⟩:=S.lst hi (MO.jO q);obtain⟨ps,rfl,rfl⟩:=rs.ints q2;have hn:numAt ps.toArray=fun j=>(ps.map (·.1)).getD j 0:=funext fun j=>uz ps j;have hL:s.heap.IsList (ρ i) (intItems ps.toArray):=⟨_,ho,rfl,ep,by simp [intItems]⟩;refine aj (sum_intList hA.2.2 hL (fun j hj=> ?_) fun h' tk t' hk=> ?_)
  ·rw [hn];exact zV hz.1 hz.2 j (by simpa using hj)
  ·rw [hn,List.size_toArray,qG _ _ (by simp),List.take_of_length_le (by simp)];exact doneK S hk fun O=> .int _ _
noncomputable def UY(x:MV)(T:String)(m:MH):Option Bool:=match x with
 | .tup _=>if T="tuple" then some true else none
 | .int _=>if T="int" then some true else if T="bool" then some false else none
 | .obj i=>(m.ob i).gR.bind fun O=>if T="list" then some true else none
 |_=>none
noncomputable def SE:Value->Option String
 | .type T=>some T
 |_=>none
noncomputable def ub(x y:MV):MM MV:=fun m=>y.PD.bind fun u=>(SE u).bind fun T=>(UY x T m).bind fun b=>some (.bool b,m)
theorem Im{u:Value}{T:String}(e:SE u=some T):u= .type T:=by
 cases u with
 |type U=>exact congrArg _ (d9 e)
 |_=>exact bZ e
theorem ti:dX 0 (.builtin "isinstance") (yj ub):=Ik fun prog w A g s ρ m x y v u hA S r r2=> .opt fun u' h1=> .opt fun T h2=> .opt fun b h3=>by
 have h1:=r2.rr h1;rw [Im h2] at h1;subst h1;cases r with
 |tup ha rs=>
  by_cases q:T="tuple"
  ·subst q;cases h3;exact aj (IsiPair.tuple_tuple ha rfl ⟨ρ,S,.refl,.bool _⟩)
  ·exact bZ (b:=b) ((if_neg q).symm.trans h3)
 |int=>
  by_cases q:T="int"
  ·subst q;cases h3;exact aj (IsiPair.int_int ⟨ρ,S,.refl,.bool _⟩)
  ·have h3:=(if_neg q).symm.trans h3
   by_cases q:T="bool"
   ·subst q;cases h3;exact aj (IsiPair.int_bool (gN S (.bool _)))
   ·exact bZ (b:=b) ((if_neg q).symm.trans h3)
 |obj hi=>
  obtain⟨xs,q,h3⟩:=bj h3;obtain⟨us,ep,ho,rs⟩:=S.lst hi (MO.jO q)
  by_cases q:T="list"
  ·subst q;cases h3;exact aj (IsiPair.list_list ho rfl ⟨ρ,S,.refl,.bool _⟩)
  ·exact bZ (b:=b) ((if_neg q).symm.trans h3)
 |_=>exact bZ h3
end
section
set_option backward.match.sparseCases false
variable {xs:List MV}{vs:List Value}{x y:MV}{a b v:Value}{d:PyData}{z:Bool}{ρ:Nat->Addr}
mutual
noncomputable def dataOf:MV->Option PyData
 | .none=>some .none
 | .bool b=>some (.bool b)
 | .int k=>some (.int k)
 | .str x=>some (.str x)
 | .tup xs=>(nV xs).bind fun ds=>some (.tuple ds)
 |_=>none
noncomputable def nV:List MV->Option (List PyData)
 | []=>some []
 |x::r=>(dataOf x).bind fun d=>(nV r).bind fun ds=>some (d::ds)
end
section
variable {ρ:Nat->Addr}{n:Nat}{h:Heap}
def FA(h:Heap)(x:MV)(v:Value):Prop:=∀d,dataOf x=some d->∃as,Reads h v d as
def KN(h:Heap)(x:List MV)(v:List Value):Prop:=∀d,nV x=some d->∃as,ReadsAll h v d as
theorem FA.tup{a:Addr}{e:Nat}(ha:h.get? a=some (tS vs e))(ih:KN h xs vs):FA h (.tup xs) (.ref a):=fun d q=>by
 obtain⟨ds,q,e⟩:=bj q;obtain⟨as,ra⟩:=ih ds q;exact(Option.some.inj e:_=d)▸⟨_,.tuple ha rfl rfl (by simpa using ra)⟩
theorem KN.cons(ha:FA h x v)(hb:KN h xs vs):KN h (x::xs) (v::vs):=fun d q=>by
 obtain⟨d',q1,q⟩:=bj q;obtain⟨ds,q2,e⟩:=bj q;obtain⟨as,ra⟩:=ha _ q1;obtain⟨bs,rb⟩:=hb _ q2;exact(d9 e:_=d)▸⟨_,.cons ra rb⟩
theorem FA.of{as:List Addr}(e:dataOf x=some d)(r:Reads h v d as):FA h x v:=fun O q=>d9 (e.symm.trans q)▸⟨_,r⟩
theorem FA.none(e:dataOf x=Option.none):FA h x v:=fun O q=>bZ (e.symm.trans q)
theorem a_.reads(r:a_ ρ n h x v):dataOf x=some d->∃as,Reads h v d as:=
 a_.rec (motive_1:=fun x v O=>FA h x v) (motive_2:=fun x v O=>KN h x v) (.of rfl .none) (fun O=> .of rfl (.bool _)) (fun O O=> .of rfl (.int _ _)) (fun O O=> .of rfl (.str _ _)) (fun O O=> .none rfl)
  (fun ha O ih=> .tup ha ih) (fun O=> .none rfl) (fun O=> .none rfl) (fun O=> .none rfl) (fun d q=>d9 q▸⟨_,.nil⟩) (fun O O a b=> .cons a b) r d
theorem bI.reads{x:List MV}{v:List Value}(r:bI ρ n h x v):KN h x v:=by
 have q:=r.f2;clear r
 induction q with
 |nil=>exact fun d q=>d9 q▸⟨_,.nil⟩
 |cons a _ ih=>exact .cons (fun O=>a.reads) ih
end
noncomputable def zW(d e:Option PyData):Option Bool:=d.bind fun d=>e.bind fun e=>if d.canLay0&&e.canLay0&&decide (min d.depth e.depth<=10) then some (PyData.eqv d e) else none
noncomputable def pH(m:MH)(i:Nat):Option PyData:=(m.ob i).gR.bind fun xs=>(nV xs).bind fun ds=>some (.list ds)
noncomputable def SH(x y:MV)(m:MH):Option Bool:=match x with
 | .int a=>(y.int?.bind fun b=>some (a==b)).or (zW (dataOf x) (dataOf y))
 | .str a=>(y.u5.bind fun b=>some (a==b)).or (zW (dataOf x) (dataOf y))
 | .bytes a=>y.qv.bind fun b=>some (a==b)
 | .obj i=>y.ij.bind fun j=>(m.ob i).gR.bind fun xs=>(m.ob j).gR.bind fun ys=>if xs.length=ys.length then zW (pH m i) (pH m j) else some false
 |_=>zW (dataOf x) (dataOf y)
noncomputable def vA(x y:MV):MM Bool:=fun m=>(SH x y m).bind fun b=>some (b,m)
noncomputable def mNe(x y:MV):MM Bool:=MM.bind (vA x y) fun b=>MM.ret (!b)
section
variable {prog:Program}{w:World}{g:Heap}{A:Around}{s s':Shared}{ρ ρ':Nat->Addr}{m m':MH}
theorem OK.pH(S:OK prog w g s ρ m){i:Nat}(hi:i<m.n)(e:pH m i=some d):∃as,Reads s.heap (.ref (ρ i)) d as:=by
 obtain⟨xs,q,e⟩:=bj e;obtain⟨ds,q2,e⟩:=bj e;obtain⟨vs,ep,ho,rs⟩:=S.lst hi (MO.jO q);obtain⟨as,ra⟩:=rs.reads _ q2;exact(Option.some.inj e:_=d)▸⟨_,.list ho rfl rfl (by simpa using ra)⟩
def Nl(prog:Program)(w:World)(A:Around)(o o':CmpOp)(a b:Value)(s:Shared)(z:Bool):Prop:=
 (∀Q:Value->Shared->Prop,Q (.bool z) s->wpAny (model prog w) A (compareOp o a b) Q cX s)/\(∀Q:Value->Shared->Prop,Q (.bool (!z)) s->wpAny (model prog w) A (compareOp o' a b) Q cX s)
theorem oW(hA:dj 0 A){d f:Option PyData}(h:zW d f=some z)(hd:∀q,d=some q->∃as,Reads s.heap a q as)(hf:∀q,f=some q->∃as,Reads s.heap b q as):Nl prog w A .Eq .NotEq a b s z:=by
 have hu:=hA.2.1;obtain⟨d',h1,h⟩:=bj h;obtain⟨f',h2,h⟩:=bj h;obtain⟨c,rfl⟩:=kz h;rw [Bool.and_eq_true,Bool.and_eq_true,decide_eq_true_eq] at c;obtain⟨_,ra⟩:=hd _ h1;obtain⟨_,rb⟩:=hf _ h2;have c3:=c.2;exact⟨fun Q q=>SeqAt.compareEq_reads ra rb c.1.1 c.1.2 (by exact RM hu c3) q,fun Q q=>SeqAt.compareNe_reads ra rb c.1.1 c.1.2 (by exact RM hu c3) q⟩
theorem or_some{α:Type}{o p:Option α}{z:α}(h:o.or p=some z):o=some z\/p=some z:=by
 cases o with
 |none=>exact .inr h
 |some x=>exact .inl h
theorem rcs(hA:dj 0 A)(S:OK prog w g s ρ m)(rx:a_ ρ m.n s.heap x a)(ry:a_ ρ m.n s.heap y b)(e:SH x y m=some z):Nl prog w A .Eq .NotEq a b s z:=by
 have hu:=hA.2.1;have uB:=fun q=>rx.reads (d:=q);have Io:=fun q=>ry.reads (d:=q)
 revert e uB
 refine rx.casesOn (fun e uB=>oW hA e uB Io) (fun O e uB=>oW hA e uB Io) (fun k t e uB=> ?_) (fun k t e uB=> ?_) (fun k t e O=> ?_) (fun O O e uB=>oW hA e uB Io) (fun O e uB=>oW hA e uB Io) (fun hi e O=> ?_) (fun O e uB=>oW hA e uB Io)
 ·rcases or_some e with e|e
  ·obtain⟨j,hj,e⟩:=bj e;obtain⟨u,rfl⟩:=ry.iF hj;obtain rfl:_=z:=d9 e;exact⟨fun Q q=>eq_int q,fun Q q=>ne_int q⟩
  ·exact oW hA e uB Io
 ·rcases or_some e with e|e
  ·obtain⟨j,hj,e⟩:=bj e;obtain⟨u,rfl⟩:=ry.xf hj;obtain rfl:_=z:=d9 e;exact⟨fun Q q=>eq_str q,fun Q q=>ne_str q⟩
  ·exact oW hA e uB Io
 ·obtain⟨j,hj,e⟩:=bj e;obtain⟨u,rfl⟩:=ry.u6 hj;obtain rfl:_=z:=d9 e;exact⟨fun Q q=>eq_bytes (by simpa using q),fun Q q=>ne_bytes (by simpa [bne] using q)⟩
 ·obtain⟨j,hj,e⟩:=bj e;obtain⟨hj,rfl⟩:=ry.ik hj;obtain⟨xs,q1,e⟩:=bj e;obtain⟨ys,q2,e⟩:=bj e
  split at e
  ·exact oW hA e (fun q h=>S.pH hi h) fun q h=>S.pH hj h
  ·rename_i hl;obtain rfl:_=z:=d9 e;obtain⟨vs,ep,h1,r1⟩:=S.lst hi (MO.jO q1);obtain⟨us,CV,h2,r2⟩:=S.lst hj (MO.jO q2);have hsz:(vs.toArray.size != us.toArray.size)=true:=by
    rw [bne_iff_ne,fX,fX, <- r1.length, <- r2.length];exact hl
   exact⟨fun Q q=>SeqAt.RcAt.lists_lengths ⟨_,h1,rfl,_,rfl⟩ ⟨_,h2,rfl,_,rfl⟩ hsz (by exact RN hu) _ _ _ _ q,fun Q q=>SeqAt.RcNeAt.lists_lengths ⟨_,h1,rfl,_,rfl⟩ ⟨_,h2,rfl,_,rfl⟩ hsz (by exact RN hu) _ _ _ _ q⟩
end
theorem eT:je .Eq vA:=fun prog w A g s ρ m x y a b hA S rx ry=> .opt fun z e=>aj ((rcs hA S rx ry e).1 _ ⟨ρ,S,.refl,rfl⟩)
theorem ji:je .NotEq mNe:=fun prog w A g s ρ m x y a b hA S rx ry=> .bind fun z m1 e=>by
 obtain⟨z',e',q⟩:=bj e;have q:=Prod.mk.inj (d9 q);obtain⟨rfl,rfl⟩:=q;exact aj ((rcs hA S rx ry e').2 _ ⟨ρ,S,.refl,rfl⟩)
noncomputable def isNone(x:MV):Option Bool:=match x with
 | .none=>some true
 | .fn _=>none
 |_=>some false
noncomputable def SI(x y:MV):Option Bool:=match y with
 | .none=>isNone x
 | .obj j=>x.ij.bind fun i=>some (i==j)
 |_=>none
noncomputable def FC(x y:MV):MM Bool:=fun m=>(SI x y).bind fun b=>some (b,m)
theorem a_.isNone{n:Nat}{h:Heap}(r:a_ ρ n h x a)(e:isNone x=some z):(a= .none/\z=true)\/(a≠ .none/\z=false):=
 r.casesOn (motive_1:=fun y b O=>Mine.isNone y=some z->(b= .none/\z=true)\/(b≠ .none/\z=false)) (fun e=> .inl ⟨rfl,(d9 e).symm⟩) (fun O e=> .inr ⟨nofun,(d9 e).symm⟩) (fun O O e=> .inr ⟨nofun,(d9 e).symm⟩) (fun O O e=> .inr ⟨nofun,(d9 e).symm⟩) (fun O O e=> .inr ⟨nofun,(d9 e).symm⟩) (fun O O e=> .inr ⟨nofun,(d9 e).symm⟩) (fun O e=> .inr ⟨nofun,(d9 e).symm⟩) (fun O e=> .inr ⟨nofun,(d9 e).symm⟩) (fun O=>bZ) e
theorem JA{prog:Program}{w:World}{g:Heap}{A:Around}{s:Shared}{m:MH}(S:OK prog w g s ρ m)(rx:a_ ρ m.n s.heap x a)(ry:a_ ρ m.n s.heap y b)(e:SI x y=some z):Nl prog w A .Is .IsNot a b s z:=by
 revert e
 refine ry.casesOn (fun e=> ?_) (fun O=>bZ) (fun O O=>bZ) (fun O O=>bZ) (fun O O=>bZ) (fun O O=>bZ) (fun O=>bZ) (@fun j hj e=> ?_) (fun O=>bZ)
 ·rcases rx.isNone e with⟨rfl,rfl⟩|⟨h,rfl⟩
  ·exact⟨fun Q q=>is_none_none q,fun Q q=>isnot_none_none q⟩
  ·exact⟨fun Q q=>is_none_ne h q,fun Q q=>isnot_none_ne h q⟩
 ·obtain⟨i,hi,e⟩:=bj e;obtain⟨hi,rfl⟩:=rx.ik hi;obtain rfl:_=z:=d9 e
  by_cases h:i=j
  ·subst h;rw [beq_self_eq_true];exact⟨fun Q q=>wpAny_is_ref_self q,fun Q q=>wpAny_isNot_ref_self q⟩
  ·rw [beq_eq_false_iff_ne.mpr h];obtain⟨o1,a1,b1⟩:=S.ob i hi;obtain⟨o2,a2,b2⟩:=S.ob j hj;have i6:ρ i≠ρ j:=fun q=>h (S.inj i j hi hj q);have hnt:o1.cls≠ .type "tuple":=by
    rcases b1.cls with q|q|q|q|⟨C,q⟩ <;> rw [q] <;> simp
   exact⟨fun Q q=>wpAny_is_ref_other i6 a1 a2 hnt q,fun Q q=>wpAny_isNot_ref_other i6 a1 a2 hnt q⟩
theorem Ip:je .Is FC:=fun prog w A g s ρ m x y a b hA S rx ry=> .opt fun z e=>aj ((JA S rx ry e).1 _ ⟨ρ,S,.refl,rfl⟩)
noncomputable def JB(x y:MV):MM Bool:=MM.bind (FC x y) fun b=>MM.ret (!b)
theorem nH:je .IsNot JB:=fun prog w A g s ρ m x y a b hA S rx ry=> .bind fun z m1 e=>by
 obtain⟨z',e',q⟩:=bj e;have q:=Prod.mk.inj (d9 q);obtain⟨rfl,rfl⟩:=q;exact aj ((JA S rx ry e').2 _ ⟨ρ,S,.refl,rfl⟩)
theorem ajD(w:World):((KK w).lookup mainGlobals).isSome=true:=by kernel_rfl!
end
section
open MeetsSeq MeetsSeq2 MeetsSeq3 SeqRoads2 SeqAt
set_option backward.match.sparseCases false
variable {xs:List MV}{vs:List Value}{prog:Program}{w:World}{g:Heap}{s:Shared}{ρ:Nat->Addr}{m:MH}{z:Bool}
noncomputable def strsOf:List MV->Option (List Str)
 | []=>some []
 |x::r=>x.u5.bind fun n=>(strsOf r).bind fun ns=>some (n::ns)
noncomputable def JC(k:Int):Value->Bool
 | .int j _=>j==k
 |_=>false
noncomputable def DF(k:Str):Value->Bool
 | .str j _=>j==k
 |_=>false
section
variable {ρ:Nat->Addr}{n:Nat}{h:Heap}
def JD(vs:List Value)(ns:List Str):Prop:=∃ps:List (Str×Tok),vs=ps.map (fun p=>Value.str p.1 p.2)/\ps.map (·.1)=ns
theorem F2.strs(r:F2 (a_ ρ n h) xs vs):∀ {ns:List Str},strsOf xs=some ns->JD vs ns:=by
 induction r with
 |nil=>exact fun e=>⟨[],rfl,d9 e⟩
 | @cons x v xs vs r _ ih=>
  intro ns e;obtain⟨k,hk,e⟩:=bj e;obtain⟨ms,hm,e⟩:=bj e;obtain⟨t,rfl⟩:=r.xf hk;obtain⟨ps,rfl,q⟩:=ih hm;exact⟨(k,t)::ps,rfl,(congrArg (k:: ·) q).trans (d9 e)⟩
theorem bI.strs{ns:List Str}(r:bI ρ n h xs vs)(e:strsOf xs=some ns):JD vs ns:=r.f2.strs e
theorem any_ints(k:Int)(ps:List (Int×Tok)):(ps.map fun p=>Value.int p.1 p.2).any (JC k)=(ps.map (·.1)).any (· ==k):=by
 induction ps with
 |nil=>rfl
 |cons p r ih=>simp only [List.map_cons,List.any_cons,ih];rfl
theorem KO(k:Str)(ps:List (Str×Tok)):(ps.map fun p=>Value.str p.1 p.2).any (DF k)=(ps.map (·.1)).any (· ==k):=by
 induction ps with
 |nil=>rfl
 |cons p r ih=>simp only [List.map_cons,List.any_cons,ih];rfl
end
noncomputable def Qm(k:Int):MO->Option Bool
 | .list xs=>(intsOf xs).bind fun ns=>some (ns.any (· ==k))
 | .dict es=>some (lA k es).isSome
 |_=>none
noncomputable def inI(k:Int)(m:MH)(y:MV):Option Bool:=match y with
 | .obj i=>Qm k (m.ob i)
 | .tup xs=>(intsOf xs).bind fun ns=>some (ns.any (· ==k))
 | .pk a b=>some (decide (a<=k/\k<b))
 |_=>none
noncomputable def SJ(x y:MV)(m:MH):Option Bool:=match x with
 | .int k=>inI k m y
 | .str k=>y.ij.bind fun i=>(m.ob i).gR.bind fun xs=>(strsOf xs).bind fun ns=>some (ns.any (· ==k))
 |_=>none
noncomputable def FD(x y:MV):MM Bool:=fun m=>(SJ x y m).bind fun b=>some (b,m)
theorem vB(r:Addr)(a b k:Int)(t u v tk:Tok):
  Meets (Builtin.«range.__contains__» ⟨[.ref r,.int k tk], []⟩) (fun A R s=>s.heap.get? r=some (Jh a b t u v)/\R (.ok (.ret (.bool (decide (a<=k/\k<b))))) s):=by
 intro prog w A R s h;obtain⟨hp,g,d,tks,os⟩:=s;obtain⟨hl,h⟩:=h;have hz:(Builtin.Range.rangePlace? a b 1 k).isSome=decide (a<=k/\k<b):=by
  unfold Builtin.Range.rangePlace?;simp [Int.emod_one]
  by_cases h1:a<=k <;> by_cases h2:k<b <;> simp [h1,h2]
 rw [<- hz] at h;unfold Builtin.«range.__contains__»
 wp_walk using AutoSeq1.wpAny_loadPart' hl
 exact h
def UZ(prog:Program)(w:World)(A:Around)(a b:Value)(s:Shared)(z:Bool):Prop:=
 (∀Q:Value->Shared->Prop,(∀tk,Q (.bool z) {s with toks:=tk})->wpAny (model prog w) A (compareOp .In a b) Q cX s)/\(∀Q:Value->Shared->Prop,(∀tk,Q (.bool (!z)) {s with toks:=tk})->wpAny (model prog w) A (compareOp .NotIn a b) Q cX s)
theorem JE{A:Around}(S:OK prog w g s ρ m){x y:MV}{a b:Value}(rx:a_ ρ m.n s.heap x a)(ry:a_ ρ m.n s.heap y b)(e:SJ x y m=some z):UZ prog w A a b s z:=by
 revert e
 refine rx.casesOn bZ (fun O=>bZ) (fun k t e=> ?_) (fun k t e=> ?_) (fun O O=>bZ) (fun O O=>bZ) (fun O=>bZ) (fun O=>bZ) (fun O=>bZ)
 ·have he:∀(ps:List (Int×Tok)) y,y∈(ps.map fun p=>Value.int p.1 p.2).toArray->EqAt A.in1 s y (.int k t) (JC k y):=by
   intro ps y hy;simp only [List.mem_toArray,List.mem_map] at hy;obtain⟨p,_,rfl⟩:=hy;exact EqAt.int_int _ _ _ _
  have hh:=fun ps=>any_ints k ps
  revert e
  refine ry.casesOn bZ (fun O=>bZ) (fun O O=>bZ) (fun O O=>bZ) (fun O O=>bZ) (fun ha rs e=> ?_) (@fun lo hi r t1 t2 t3 ha e=> ?_) (@fun i hi e=> ?_) (fun O=>bZ)
  ·obtain⟨ns,q2,e⟩:=bj e;obtain rfl:_=z:=d9 e;obtain⟨ps,rfl,rfl⟩:=rs.ints q2;have hl:s.heap.IsTuple _ (ps.map fun p=>Value.int p.1 p.2).toArray:=⟨_,ha,rfl,_,rfl⟩;exact⟨fun Q q=>in_tupleAt _ hl (he ps) (by rw [List.any_toArray,hh];exact q _),fun Q q=>notIn_tupleAt _ hl (he ps) (by rw [List.any_toArray,hh];exact q _)⟩
  ·obtain rfl:_=z:=d9 e;exact⟨fun Q q=>in_meets ⟨_,ha,rfl⟩ F.slot_range_contains F.entry_range_contains (F.args_range_contains_2 _ _) (vB r lo hi k _ _ _ _) ⟨ha,_,rfl,q _⟩,
    fun Q q=>notIn_meets ⟨_,ha,rfl⟩ F.slot_range_contains F.entry_range_contains (F.args_range_contains_2 _ _) (vB r lo hi k _ _ _ _) ⟨ha,_,rfl,q _⟩⟩
  ·have e:Qm k (m.ob i)=some z:=e;cases q1:m.ob i with
   |list xs=>
    rw [q1] at e;obtain⟨ns,q2,e⟩:=bj e;obtain rfl:_=z:=d9 e;obtain⟨vs,ep,h1,r1⟩:=S.lst hi q1;obtain⟨ps,rfl,rfl⟩:=r1.ints q2;have hl:s.heap.IsList (ρ i) (ps.map fun p=>Value.int p.1 p.2).toArray:=⟨_,h1,rfl,_,rfl⟩;exact⟨fun Q q=>in_listAt _ hl (he ps) (by rw [List.any_toArray,hh];exact q _),fun Q q=>notIn_listAt _ hl (he ps) (by rw [List.any_toArray,hh];exact q _)⟩
   |dict es=>
    rw [q1] at e;obtain rfl:_=z:=d9 e;obtain⟨o,ho,r⟩:=S.ob i hi;rw [q1] at r;obtain⟨hc,sm,kvs,hd,hr⟩:=r;have hD:s.heap.DictOf (intKind prog w) (ρ i) kvs:=Heap.dictOf_iff.mpr ⟨o,ho,hd⟩;have hv:(valueAt kvs k).isSome=(lA k es).isSome:=by
     have:=hr.get k;cases q:lA k es with
     |some x=>rw [q] at this;obtain⟨v,e1,_⟩:=this;rw [e1];rfl
     |none=>rw [q] at this;rw [this];rfl
    exact⟨fun Q q=>wpAny_in_of (knd:=intKind prog w) (k:=k) (by simp [intKind,Value.isInt]) (beq_eq_false_iff_ne.mpr sm.2) hD.mapOf (by rw [hv];exact q _),fun Q q=>wpAny_notIn_of (knd:=intKind prog w) (k:=k) (by simp [intKind,Value.isInt]) (beq_eq_false_iff_ne.mpr sm.2) hD.mapOf (by rw [hv];exact q _)⟩
   |_=>rw [q1] at e;exact bZ e
 ·obtain⟨i,hi,e⟩:=bj e;obtain⟨xs,q1,e⟩:=bj e;obtain⟨ns,q2,e⟩:=bj e;obtain rfl:_=z:=d9 e;obtain⟨hi,rfl⟩:=ry.ik hi;obtain⟨vs,ep,h1,r1⟩:=S.lst hi (MO.jO q1);obtain⟨ps,rfl,rfl⟩:=r1.strs q2;have he:∀y,y∈(ps.map fun p=>Value.str p.1 p.2).toArray->EqAt A.in1 s y (.str k t) (DF k y):=by
   intro y hy;simp only [List.mem_toArray,List.mem_map] at hy;obtain⟨p,_,rfl⟩:=hy;exact EqAt.str_str _ _ _ _
  have hl:s.heap.IsList (ρ i) (ps.map fun p=>Value.str p.1 p.2).toArray:=⟨_,h1,rfl,_,rfl⟩;have hh:=KO k ps;exact⟨fun Q q=>in_listAt _ hl he (by rw [List.any_toArray,hh];exact q _),fun Q q=>notIn_listAt _ hl he (by rw [List.any_toArray,hh];exact q _)⟩
theorem Nm(S:OK prog w g s ρ m){tk:Nat}:lx prog w g fo (fun O O O b a=>a=Value.bool b) s ρ m z m (.bool z) {s with toks:=tk}:=
 ⟨ρ,S.grow (s':= {s with toks:=tk}) (fun O O e=>e),.grow (s':= {s with toks:=tk}) (fun O O e=>e) rfl rfl,rfl⟩
theorem Iq:je .In FD:=fun prog w A g s ρ m x y a b hA S rx ry=> .opt fun z e=>aj ((JE S rx ry e).1 _ fun tk=>Nm S)
noncomputable def JF(x y:MV):MM Bool:=MM.bind (FD x y) fun b=>MM.ret (!b)
theorem tj:je .NotIn JF:=fun prog w A g s ρ m x y a b hA S rx ry=> .bind fun z m1 e=>by
 obtain⟨z',e',q⟩:=bj e;have q:=Prod.mk.inj (d9 q);obtain⟨rfl,rfl⟩:=q;exact aj ((JE S rx ry e').2 _ fun tk=>Nm S)
end
section
theorem zX:∀(n:Int) (ns:List Int),iW (n::ns)∈n::ns/\∀a∈n::ns,a<=iW (n::ns)
 |n, []=>⟨List.mem_singleton.mpr rfl,fun a h=>by rw [List.mem_singleton] at h;subst h;exact Int.le_refl _⟩
 |n,k::r=>by
  obtain⟨h1,h2⟩:=zX k r;have e:iW (n::k::r)=max n (iW (k::r)):=rfl;refine⟨?_,fun a ha=> ?_⟩
  ·rw [e]
   by_cases h:n<=iW (k::r)
   ·rw [Int.max_eq_right h];exact List.mem_cons_of_mem _ h1
   ·rw [Int.max_eq_left (by exact YQ h)];exact rI
  ·rw [e];rcases List.mem_cons.mp ha with rfl|ha
   ·exact Int.le_max_left ..
   ·exact Int.le_trans (h2 a ha) (Int.le_max_right ..)
theorem FE{m:MH}{o:Option (List Int)}{r:MV×MH}(e:Il m o=some r):∃n ns,o=some (n::ns)/\r=(.int (iW (n::ns)),m):=by
 cases o with
 |none=>exact bZ e
 |some l=>cases l with
  |nil=>exact bZ e
  |cons n ns=>exact⟨n,ns,rfl,(d9 e).symm⟩
theorem DG:dX 0 (.builtin "max") Ni:=by
 intro prog w A g s ρ m xs vs hA S r;cases r with
 |nil=>exact True.intro
 |cons r1 rs=>cases rs with
  |nil=>
   refine .opt fun i hi=> .opt fun xs q1=> .of fun b m' e=> ?_;obtain⟨n,ns,q2,e⟩:=FE e;obtain⟨hi,rfl⟩:=r1.ik hi;cases e;obtain⟨us,ep,ho,rs⟩:=S.lst hi (MO.jO q1);obtain⟨ps,rfl,q3⟩:=rs.ints q2;have hit:(ps.map fun p=>Value.int p.1 p.2).toArray=intItems ps.toArray:=by simp [intItems]
   have hl:s.heap.IsList (ρ i) (intItems ps.toArray):=⟨_,ho,rfl,_,by rw [<- hit]⟩;have hlen:ps.length=ns.length+1:=by rw [<- eW (f:=(·.1)),q3];rfl
   refine aj (max_intList hA.2.2 hl (by simp;exact YR hlen) fun v h' tk hv hk=> ?_);obtain⟨t,rfl⟩:=intItems_at hv;obtain⟨h1,h2⟩:=argBest_gt (numAt ps.toArray) (ps.toArray.size-1);obtain⟨m1,m2⟩:=zX n ns;have key:numAt ps.toArray (argBest (fun i j=>decide (numAt ps.toArray i>numAt ps.toArray j)) (ps.toArray.size-1))=iW (n::ns):=by
    have hsz:ps.toArray.size=ns.length+1:=by simp [hlen]
    refine Int.le_antisymm (m2 _ ?_) ?_
    ·rw [uz,q3];have ke:argBest (fun i j=>decide (numAt ps.toArray i>numAt ps.toArray j)) (ps.toArray.size-1)<(n::ns).length:=by rw [oK];exact YS h1 hsz
     rw [pj,iq ke];exact List.getElem_mem ke
    ·obtain⟨j,hj,ej⟩:=List.getElem_of_mem m1;rw [<- ej];have:=h2 j (by rw [oK] at hj;exact YT hsz hj);rw [uz ps j,q3,pj,iq hj] at this;exact this
   rw [key];exact doneK S hk fun O=> .int _ _
  |cons r2 rs=>cases rs with
   |nil=>
    exact .opt fun a ha=> .opt fun b hb=>by
     obtain⟨_,rfl⟩:=r1.iF ha;obtain⟨_,rfl⟩:=r2.iF hb;refine aj (max_two_ints hA.2.2 fun h' tk hk=>doneK S hk fun O=> ?_)
     split <;> exact .int _ _
   |cons _ _=>exact True.intro
noncomputable def boolsOf:List MV->Option (List Bool)
 | []=>some []
 |x::r=>x.bool?.bind fun n=>(boolsOf r).bind fun ns=>some (n::ns)
theorem F2.bools{ρ:Nat->Addr}{n:Nat}{h:Heap}{xs:List MV}{vs:List Value}(r:F2 (a_ ρ n h) xs vs):∀ {ns:List Bool},boolsOf xs=some ns->vs=ns.map Value.bool:=by
 induction r with
 |nil=>exact fun e=>d9 e▸rfl
 | @cons x v xs vs r _ ih=>
  intro ns e;obtain⟨k,hk,e⟩:=bj e;obtain⟨ms,hm,e⟩:=bj e;rw [r.CR hk,ih hm];exact congrArg (List.map Value.bool) (d9 e)
noncomputable def JG(x:MV):MM MV:=fun m=>x.ij.bind fun i=>(m.ob i).gR.bind fun xs=>(boolsOf xs).bind fun bs=>some (.bool (bs.all id),m)
theorem DH:dX 0 (.builtin "all") (so JG):=zU fun prog w A g s ρ m x v hA S r=> .opt fun i hi=> .opt fun xs q1=> .opt fun bs q2=>by
 obtain⟨hi,rfl⟩:=r.ik hi;obtain⟨us,ep,ho,rs⟩:=S.lst hi (MO.jO q1);have hu:=rs.f2.bools q2;subst hu;have i6:ρ i≠s.heap.objs.size:=Nat.ne_of_lt (Heap.lt_size ho);have hl:s.heap.IsList (ρ i) (bs.map Value.bool).toArray:=⟨_,ho,rfl,_,rfl⟩;refine aj (call_all_walk (wpAny_pyIter_list hl ?_));have W:=Walks.list (prog:=prog) (w:=w) (A:=A.in1) hA.2.2 s.heap.objs.size (ρ i) i6 (bs.map Value.bool).toArray;refine⟨s.heap.objs.size, [s.heap.objs.size,ρ i], [s.heap.objs.size],(bs.map Value.bool).toArray.size,_,_,fun j=>bs.getD j true,rfl,W,⟨⟨_,iR _ rfl,rfl,rfl⟩, ?_⟩, ?_, ?_⟩
 ·obtain⟨o,ho,r⟩:=hl;exact⟨o,gT _ ho,r⟩
 ·intro j v s Q E hv hQ;have EO:bs[j]?.map Value.bool=some v:=by simpa using hv
  cases hb:bs[j]? with
  |none=>rw [hb] at EO;cases EO
  |some c=>
   rw [hb] at EO;cases EO;have:bs.getD j true=c:=by rw [pj,hb];rfl
   have hQ':Q (bs.getD j true) s:=hQ;rw [this] at hQ';exact wpAny_truthy_bool hQ'
 ·intro h' tk Uj;have hz:((List.range (bs.map Value.bool).toArray.size).all fun j=>bs.getD j true)=bs.all id:=by
   rw [fX,eW,Bool.eq_iff_iff,List.all_eq_true,List.all_eq_true]
   constructor
   ·intro h x hx;obtain⟨j,hj,rfl⟩:=List.getElem_of_mem hx;have:=h j (List.mem_range.mpr hj);rw [pj,iq hj] at this;exact this
   ·intro h j hj;rw [List.mem_range] at hj;rw [pj,iq hj];exact h _ (List.getElem_mem hj)
  rw [hz];refine doneK S (fun a o e=>Uj a o ?_ (gT _ e)) fun O=> .bool _;rw [List.mem_singleton];intro q;rw [q,cA] at e;exact bZ e
def JH(k:Str)(id:String)(P:MH->MV->Bool):Prop:=
 ∀prog w A g s ρ m x a pl (Q:Value×List Value->Shared->Prop),OK prog w g s ρ m->a_ ρ m.n s.heap x a->P m x=true->Q (.builtin id, [a]) s->wpAny (model prog w) A (getMethod a k pl) Q cX s
noncomputable def yk(P:MH->MV->Bool)(x:MV):MM Unit:=fun m=>if P m x=true then some ((),m) else none
noncomputable def Qo(P:MH->MV->Bool)(f:List MV->MM MV)(co:av->MM MV)(ca:av->MM (List MV)):av->MM MV:=fun fr=>MM.bind (co fr) fun x=>MM.bind (yk P x) fun O=>MM.bind (ca fr) fun xs=>f (x::xs)
theorem eA{n:Nat}{sg:Sg}{o:Expr}{k:Str}{id:String}{apos pos:Pos}{args:List Expr}{co:av->MM MV}{ca:av->MM (List MV)}{P:MH->MV->Bool}{f:List MV->MM MV}(ho:cD n sg o co)(ha:nP n sg args ca)(hp:Plain args)
  (hg:JH k id P)(hf:dX 0 (.builtin id) f)
  (he:∀env,∃pl,eval (.Call (.Attribute o k apos) args [] pos) env=(do
   let ov <- eval o env
   standAt apos.atName
   let(f,first) <- holding [ov] (getMethod ov k pl)
   callWith pos f first (backTo pos (starEach args env)) (backToKw pos (keywordEach [] env)))):
  cD n sg (.Call (.Attribute o k apos) args [] pos) (Qo P f co ca):=by
 intro prog w A g env fr s ρ m hA S F;refine .bind fun x m1 e1=> .bind fun O m2 e2=> .bind fun xs m3 e3=> .of fun b m' e=> ?_;obtain⟨pl,he⟩:=he env;obtain⟨h1,q⟩:=kz e2;cases q;refine mv ((ho _ _ A _ _ _ _ _ _ hA S F).step e1 fun a s1 ρ1 S1 V1 r1=> ?_) he;refine aj (hg _ _ A _ _ _ _ _ _ _ _ S1 r1 h1 ?_);refine wj (first:= [a]) ha hp (aG rfl) hA S1 (F.dQ V1) e3 fun vs s2 ρ2 S2 V2 r2=> ?_;exact(hf.less (Nat.zero_le _)).call hA S2 (.cons (r1.mono V2.mono) r2) e fun v s3 ρ3 S3 V3 r3=>⟨ρ3,S3,(V1.comp V2).comp V3,r3⟩
noncomputable def Ir(m:MH)(x:MV):Bool:=(x.ij.bind fun i=>(m.ob i).gR).isSome
noncomputable def JI(m:MH)(x:MV):Bool:=(x.ij.bind fun i=>(m.ob i).Kq).isSome
noncomputable def isStr(_:MH)(x:MV):Bool:=x.u5.isSome
theorem gk{k:Str}{id:String}(slot:Slot "list" k id)(hty:typeOf (.builtin id)=pure (.type "method_descriptor")):JH k id Ir:=by
 intro prog w A g s ρ m x a pl Q S r h q;obtain⟨xs,h⟩:=Option.isSome_iff_exists.mp h;obtain⟨i,hi,h⟩:=bj h;obtain⟨hi,rfl⟩:=r.ik hi;obtain⟨us,ep,ho,rs⟩:=S.lst hi (MO.jO h);exact getMethod_list_of slot hty ⟨_,ho,rfl,_,rfl⟩ ⟨_,ho,rfl⟩ q
theorem FG:JH "extend" "bytearray.extend" JI:=by
 intro prog w A g s ρ m x a pl Q S r h q;obtain⟨xs,h⟩:=Option.isSome_iff_exists.mp h;obtain⟨i,hi,h⟩:=bj h;obtain⟨hi,rfl⟩:=r.ik hi;exact Bk (S.bar hi (MO.Un h)) q
theorem It:JH "join" "str.join" isStr:=by
 intro prog w A g s ρ m x a pl Q S r h q;obtain⟨xs,h⟩:=Option.isSome_iff_exists.mp h;obtain⟨_,rfl⟩:=r.xf h;exact _root_.PySem.GM.join q
noncomputable def FH:List MV->MM MV:=yj fun x y m=>x.ij.bind fun i=>(m.ob i).gR.bind fun xs=>if xs.length<=100000/\i<m.n then some (.none,m.set i (.list (xs++ [y]))) else none
theorem uC:dX 0 (.builtin "list.append") FH:=Ik fun prog w A g s ρ m x y v u hA S r r2=> .opt fun i hi=> .opt fun xs q1=> .ite fun hz=>by
 obtain⟨hi,rfl⟩:=r.ik hi;obtain⟨us,ep,ho,rs⟩:=S.lst hi (MO.jO q1);refine aj (wpAny_list_append_plain (hsz:=by rw [fX, <- rs.length,sizeLine_eq];exact WA hz) ⟨_,ho⟩ fun h' hp hs=> ?_);obtain⟨n',hH⟩:=hp;have kp:∀a o,a≠ρ i->s.heap.get? a=some o->h'.get? a=some o:=fun a o ha eo=>(hs.2 a ha).trans eo;exact⟨ρ,S.put (s':= {s with heap:=h'}) hi kp hH fun M=>⟨us++ [u],n',by simp,(rs.mono M).append (.cons (r2.mono M) .nil)⟩,.put S (s':= {s with heap:=h'}) hi kp ⟨_,hH⟩ rfl rfl,.none⟩
noncomputable def FI:List MV->MM MV:=yj fun x y m=>x.ij.bind fun i=>y.ij.bind fun j=>(m.ob i).gR.bind fun xs=>(m.ob j).gR.bind fun ys=>if xs.length+ys.length<=100000/\i<m.n then some (.none,m.set i (.list (xs++ys))) else none
theorem nW:dX 0 (.builtin "list.extend") FI:=Ik fun prog w A g s ρ m x y v u hA S r r2=> .opt fun i hi=> .opt fun j hj=> .opt fun xs q1=> .opt fun ys q2=> .ite fun hz=>by
 obtain⟨hi,rfl⟩:=r.ik hi;obtain⟨hj,rfl⟩:=r2.ik hj;obtain⟨us,ep,ho,rs⟩:=S.lst hi (MO.jO q1);obtain⟨FJ,Nn,px,Qp⟩:=S.lst hj (MO.jO q2);have Np:us.toArray.size+FJ.toArray.size<=sizeLine:=by rw [fX,fX, <- rs.length, <- Qp.length,sizeLine_eq];exact YU hz
 refine aj (call_meets PySem.F.slot_list_extend ⟨_,ho,rfl⟩ PySem.F.entry_list_extend (PySem.F.args_list_extend_2 _ _) (AutoSeq1.list_extend_list_list_0 _ us.toArray _ _ FJ.toArray _ (extend_door Np) (jc (Nat.le_add_right _ _) Np) (jc Np (Nat.le_succ _))) ⟨ho,px, ?_⟩);generalize hh:s.heap.update (ρ i) (Obj.mapSeq fun x=>x++FJ.toArray)=h';have e:us.toArray++FJ.toArray=(us++FJ).toArray:=by simp
 have hH:h'.get? (ρ i)=some {cls:= .type "list",data:= .seq (us++FJ).toArray (if(us.toArray++FJ.toArray).size==us.toArray.size then ep else ep+1)}:=by
  rw [<- hh,Heap.get?_update_self _ ho (by rw [mapSeq_app];rfl),mapSeq_app,e]
 have hs:Heap.SameBut (ρ i) s.heap h':=hh▸Heap.SameBut.update ..;have kp:∀a o,a≠ρ i->s.heap.get? a=some o->h'.get? a=some o:=fun a o ha eo=>(hs.2 a ha).trans eo;exact⟨ρ,S.put (s':= {s with heap:=h'}) hi kp hH fun M=>⟨us++FJ,_,rfl,(rs.mono M).append (Qp.mono M)⟩,.put S (s':= {s with heap:=h'}) hi kp ⟨_,hH⟩ rfl rfl,.none⟩
noncomputable def Iu:List MV->MM MV:=yj fun x y m=>x.ij.bind fun i=>y.qv.bind fun x=>(m.ob i).Kq.bind fun b=>if b.length+x.length<=100000/\i<m.n then some (.none,m.set i (.ba (b++x))) else none
theorem FK:dX 0 (.builtin "bytearray.extend") Iu:=Ik fun prog w A g s ρ m x y v u hA S r r2=> .opt fun i hi=> .opt fun x hx=> .opt fun b q1=> .ite fun hz=>by
 obtain⟨hi,rfl⟩:=r.ik hi;obtain⟨_,rfl⟩:=r2.u6 hx;refine Ij (S.bar hi (MO.Un q1)) hz.1 fun h' hH hs=> ?_;have kp:∀a o,a≠ρ i->s.heap.get? a=some o->h'.get? a=some o:=fun a o ha eo=>(hs.2 a ha).trans eo;exact⟨ρ,S.put (s':= {s with heap:=h'}) hi kp hH fun M=>rfl,.put S (s':= {s with heap:=h'}) hi kp ⟨_,hH⟩ rfl rfl,.none⟩
noncomputable def zY(k:Str):List Str->Option Nat
 | []=>none
 |x::r=>if x=k then some 0 else(zY k r).map (· +1)
theorem zZ(k:Str):∀(l:List Str) (j:Nat),zY k l=some j->l[j]? =some k/\∀i,i<j->∀y,l[i]? =some y->y≠k
 | [],j,e=>by cases e
 |x::r,j,e=>by
  change (if x=k then some 0 else(zY k r).map (· +1))=some j at e
  by_cases h:x=k
  ·rw [if_pos h] at e;cases e;exact⟨congrArg some h,fun i hi=>absurd hi (Nat.not_lt_zero _)⟩
  ·rw [if_neg h,nN] at e;obtain⟨j',e',rfl⟩:=e;obtain⟨h1,h2⟩:=zZ k r j' e';refine⟨h1,fun i hi y hy=> ?_⟩;cases i with
   |zero=>cases hy;exact h
   |succ i=>exact h2 i (by exact YV hi) y hy
noncomputable def JJ:List MV->MM MV:=yj fun x y m=>x.ij.bind fun i=>y.u5.bind fun k=>(m.ob i).gR.bind fun xs=>(strsOf xs).bind fun ns=>(zY k ns).bind fun j=>if ns.length<=100000 then some (.int (j:Int),m) else none
theorem wJ:dX 0 (.builtin "list.index") JJ:=Ik fun prog w A g s ρ m x y v u hA S r r2=> .opt fun i hi=> .opt fun k hk=> .opt fun xs q1=> .opt fun ns q2=> .opt fun j q3=> .ite fun hz=>by
 obtain⟨hi,rfl⟩:=r.ik hi;obtain⟨t,rfl⟩:=r2.xf hk;obtain⟨us,ep,ho,rs⟩:=S.lst hi (MO.jO q1);obtain⟨ps,rfl,rfl⟩:=rs.strs q2;obtain⟨h1,h2⟩:=zZ k _ _ q3;have hj:j<(ps.map (·.1)).length:=(List.getElem?_eq_some_iff.mp h1).1;have Fh:j<ps.length:=by simpa using hj
 rw [eW] at hz;have at_:∀i (hi:i<ps.length),(ps.map fun p=>Value.str p.1 p.2).toArray[i]'(by simpa using hi)= .str ps[i].1 ps[i].2:=fun i hi=>by simp
 refine aj (call_meets F.slot_list_index ⟨_,ho,rfl⟩ F.entry_list_index (F.args_list_index_2 _ _) (SeqAt.list_indexAt _ (ps.map fun p=>Value.str p.1 p.2).toArray _ _ _ (.str k t) (DF k) j (by simpa using Fh) (by exact YW hz Fh) ?_ ?_) ⟨ho, ?_, ?_⟩)
 ·rw [at_ j Fh];rw [ja,iq Fh,Option.map_some,Option.some.injEq] at h1;rw [h1];exact beq_self_eq_true _
 ·intro i hi hij;have pA:i<ps.length:=by simpa using hi
  rw [at_ i pA];exact beq_eq_false_iff_ne.mpr (h2 i hij _ (by rw [ja,iq pA];rfl))
 ·intro y hy;simp only [List.mem_toArray,List.mem_map] at hy;obtain⟨p,_,rfl⟩:=hy;exact SeqAt.EqAt.str_str _ _ _ _
 ·exact gN S (.int _ _)
end
section
variable {ρ:Nat->Addr}{n:Nat}{h:Heap}{w:World}{kvs:List (Int×Value)}
noncomputable def distinct(ns:List Int):Nat:=(PyProof.Rows.firstMet (fun i=>ns.getD i 0) ns.length).length
noncomputable def Nq(x:MV):MM MV:=fun m=>x.ij.bind fun i=>(m.ob i).gR.bind fun xs=>(intsOf xs).bind fun ns=>if ns.length<=4000 then some (.obj m.n,m.new (.tR (distinct ns))) else none
theorem Qq:dX 0 (.type "set") (so Nq):=zU fun prog w A g s ρ m x v hA S r=> .opt fun i hi=> .opt fun xs q1=> .opt fun ns q2=> .ite fun hz=>by
 obtain⟨hi,rfl⟩:=r.ik hi;obtain⟨us,ep,ho,rs⟩:=S.lst hi (MO.jO q1);obtain⟨ps,rfl,rfl⟩:=rs.ints q2;rw [eW] at hz;refine aj (call_set_list (ns:=ps.map (·.1)) (items:=(ps.map fun p=>Value.int p.1 p.2).toArray) hA.2.2 ⟨_,ho,rfl,_,rfl⟩ (IntsAre.wI ps) (by rw [fX,eW];show _<4096;exact W5 hz) fun h' tk ad4 hk=> ?_);obtain⟨o,es,CV,t,hg,hex,hd,_,_,_,hf,hn⟩:=ad4;have hn:es.size=distinct (ps.map (·.1)):=by
  rw [hn];unfold distinct;simp
 refine xw (o:=o) S (fun a o e=>hk a o (Heap.lt_size e) e) hg (cA _) fun M=>⟨hex,es,CV,t,hd,hf,hn⟩
noncomputable def z_(x:MV):MM MV:=fun m=>x.ij.bind fun i=>(m.ob i).Hw.bind fun es=>if es.length<64 then some (.obj m.n,m.new (.list ((sortI (es.map (·.1))).map MV.int))) else none
theorem bI.Nr{vs:List Value}{ns:List Int}(r:IntsAre vs ns):bI ρ n h (ns.map MV.int) vs:=by
 induction r with
 |nil=>exact .nil
 |cons _ _ _ ih=>exact .cons (.int _ _) ih
theorem DI{prog:Program}{A:Around}{E:Value->Shared->Prop}{s:Shared}{d:Addr}{Q:Value->Shared->Prop}(hh:A.handled=none)(lo:(d==sysModules)=false)(hD:s.heap.DictOf (intKind prog w) d kvs)(U0:kvs.length<64)
  (h:∀(h':Heap) (tk:Nat) (a:Addr) (out:Array Value) (e:Nat),(∀b o,s.heap.get? b=some o->h'.get? b=some o)->s.heap.get? a=none->h'.get? a=some (fP out.toList e)->IntsAre out.toList (sortI (kvs.map (·.1)))->Q (.ref a) {s with heap:=h',toks:=tk}):
  wpAny (model prog w) A (call (.builtin "sorted") [.ref d]) Q E s:=by
 obtain⟨ep,yl⟩:=hD.dictAt;refine call_function_entry kind_sorted plain_sorted entry_sorted (args_sorted1 _) ?_;refine aN (m:=checkCount "sorted" 1 1 _) (cP ?_);refine aN (kdu_collect (A:=A.in1) (kdl_dict (knd:=intKind prog w) (kvs:=kvs) (ep:=ep) lo) hh yl (by rw [sizeLine_eq];exact WD U0) fun h' tk acc hk FL=> ?_);have hl:acc.toList.length=kvs.length:=by rw [Array.length_toList];exact FL.1
 have hI:IntsAre acc.toList (kvs.map (·.1)):=by
  have key:∀(l:List Value) (kv:List (Int×Value)),l.length=kv.length->(∀(j:Nat) (v:Value),l[j]? =some v->∃(k:Int) (x:Value),kv[j]? =some (k,x)/\(intKind prog w).is k v=true)->IntsAre l (kv.map (·.1)):=by
   intro l
   induction l with
   |nil=>intro kv hl _;cases kv with
    |nil=>exact .nil
    |cons _ _=>cases hl
   |cons v l ih=>intro kv hl hv;cases kv with
    |nil=>cases hl
    |cons p kv=>
     obtain⟨k,x,e,hk⟩:=hv 0 v rfl;have ek:p=(k,x):=by simpa using e
     subst ek;have EO:∃t,v= .int k t:=by
      cases v <;> simp [intKind,Value.isInt] at hk
      subst hk;exact⟨_,rfl⟩
     obtain⟨t,rfl⟩:=EO;exact .cons _ _ (ih kv (by simpa using hl) fun j v e=>hv (j+1) v e)
  exact key _ _ hl fun j v e=>FL.2 j v (by rw [<- Array.getElem?_toList];exact e)
 refine aN (wpAny_newList ?_ (by rw [hl,sizeLine_eq];exact WD U0));have U1:(h'.push (seqObj "list" acc.toList.toArray 0)).get? h'.objs.size=some (seqObj "list" acc.toList.toArray 0):=iR _ rfl;have hn:s.heap.get? h'.objs.size=none:=by
  cases q:s.heap.get? h'.objs.size with
  |none=>rfl
  |some o=>exact absurd (Heap.lt_size (hk _ _ q)) (Nat.lt_irrefl _)
 refine aN (wpAny_holding (wpAny_call_entry slot_list_sort ⟨_,U1,rfl⟩ entry_list_sort (list_sort_tree U1 hI (by exact W6 U0 hl) fun out ns' a1 a2 a3=>⟨_,rfl, ?_⟩) (args_list_sort _)));obtain⟨e,he⟩:=sortedHeap_at (out:=out) U1;refine cP ⟨_,rfl,h _ _ _ out e (fun b o eb=> ?_) hn he (by rw [<- eq_sortI a2 a3];exact a1)⟩;have hb:b≠h'.objs.size:=fun q=>by rw [q,hn] at eb;cases eb
 rw [sortedHeap_old hb (by rw [Heap.size_push];exact Nat.lt_succ_of_lt (Heap.lt_size (hk _ _ eb)))];exact gT _ (hk _ _ eb)
theorem fi.keys{es:List (Int×MV)}(r:fi ρ n h es kvs):kvs.map (·.1)=es.map (·.1):=by
 induction r with
 |nil=>rfl
 |cons _ _ ih=>simp only [List.map_cons,ih]
theorem uD:dX 0 (.builtin "sorted") (so z_):=zU fun prog w A g s ρ m x v hA S r=> .opt fun i hi=> .opt fun es q1=> .ite fun hz=>by
 obtain⟨hi,rfl⟩:=r.ik hi;obtain⟨o,ho,r⟩:=S.ob i hi;rw [MO.Uo q1] at r;obtain⟨hc,sm,kvs,hd,hr⟩:=r;have hD:s.heap.DictOf (intKind prog w) (ρ i) kvs:=Heap.dictOf_iff.mpr ⟨o,ho,hd⟩;refine aj (DI hA.2.2 (beq_eq_false_iff_ne.mpr sm.2) hD (by rw [<- hr.length];exact hz) fun h' tk a out e hk hn ha hI=> ?_);rw [hr.keys] at hI;exact xw S hk ha hn fun M=>⟨_,_,rfl,.Nr hI⟩
theorem Base.size(b:Base w h):sysModules<h.objs.size:=by
 obtain⟨mg,mb,⟨o,_,_,e,_⟩,_⟩:=b.top;exact Nat.lt_trans (by decide:sysModules<mainGlobals) (Heap.lt_size e)
theorem xx{sg:Sg}{p:Pos}:cD n sg (.Dict [] [] p) fun O=>fun m=>some (.obj m.n,m.new (.dict [])):=by
 intro prog w A g env fr s ρ m hA S F;refine aj (wpAny_Dict_empty ?_);have hs:Sub s.heap (s.heap.push {cls:= .type "dict",data:= .dict #[]}):=fun a o e=>gT _ e;obtain⟨o,ho,hd⟩:=Heap.dictOf_iff.mp (Heap.DictOf.new (knd:=intKind prog w) s.heap);have hc:o.cls= .type "dict":=by
  obtain⟨_,_,hx,_⟩:=hd
  first|exact hx|exact hx.1|exact hx.2
 exact xw (t:=s.toks) S hs ho (cA _) fun M=>⟨hc,⟨gA _,by rw [el];exact Nat.ne_of_gt S.now.size⟩, [],hd,.nil⟩
end
section
variable {l r₁ r₂ x:Expr}{o₁ o₂:CmpOp}{p:Pos}{cx:av->MM MV}
theorem Iv{M:Model}{A:Around}{E:Value->Shared->Prop}{s:Shared}{env:Env}{pos:Pos}{Q:Value->Shared->Prop}(hb:lastMarks [o₁,o₂] [r₁,r₂]=false)
  (h:ay s E A M (fun a s₁=>ay s₁ E A M (fun b s₂=>ay s₂ E A M (fun c s₃=>ay s₃ E A M (fun t s₄=>
   if t=true then ay s₄ E A M (fun d s₅=>ay s₅ E A M Q (compareOp o₂ b d)) (eval r₂ env) else Q c s₄) (truthy c)) (compareOp o₁ a b)) (eval r₁ env)) (eval l env)):
  ay s E A M Q (eval (.Compare l [o₁,o₂] [r₁,r₂] pos) env):=by
 show ay s E A M Q (do compareChain pos (<- eval l env) [o₁,o₂] (markedEach [o₁,o₂] [r₁,r₂] (evalEach [r₁,r₂] env)));rw [markedEach_of_false _ _ _ hb];refine af (au h (fun a s₁ h₁=> ?_) fun O O e=>e);refine af (aK (au h₁ (fun b s₂ h₂=>af (bx (af (aK (au h₂ (fun c s₃ h₃=>af (qt (af (aK (au h₃ (fun t s₄ h₄=> ?_) fun O O e=>e))))) fun O O e=>e))))) fun O O e=>e));cases t with
 |false=>exact ax h₄
 |true=>
  exact af (aK (au h₄ (fun d s₅ h₅=>af (bx (qo h₅))) fun O O e=>e))
section
variable {n:Nat}{sg:Sg}
theorem xy{cl c1 c2:av->MM MV}{f1 f2:MV->MV->MM Bool}(hl:cD n sg l cl)(h1:cD n sg r₁ c1)(h2:cD n sg r₂ c2)(u9:je o₁ f1)(px:je o₂ f2)
  (hm:lastMarks [o₁,o₂] [r₁,r₂]=false):
  cD n sg (.Compare l [o₁,o₂] [r₁,r₂] p) fun fr=>MM.bind (cl fr) fun a=>MM.bind (c1 fr) fun b=>MM.bind (f1 a b) fun t=>bif t then MM.bind (c2 fr) fun d=>MM.bind (f2 b d) fun z=>MM.ret (.bool z) else MM.ret (.bool false):=by
 intro prog w A g env fr s ρ m hA S F;refine .bind fun x m1 e1=> .bind fun y m2 e2=> .bind fun t m3 e3=> .of fun b m' e=> ?_;refine Iv hm ((hl _ _ A _ _ _ _ _ _ hA S F).step e1 fun a s1 ρ1 S1 V1 r1=> ?_);refine(h1 _ _ A _ _ _ _ _ _ hA S1 (F.dQ V1)).step e2 fun c s2 ρ2 S2 V2 r2=> ?_;refine(u9 _ _ A _ _ _ _ _ _ _ _ (hA.less (Nat.zero_le _)) S2 (r1.mono V2.mono) r2).step e3 fun v s3 ρ3 S3 V3 r3=> ?_;subst r3;refine aj (wpAny_truthy_bool ?_);cases t with
 |false=>
  obtain⟨rfl,rfl⟩:=MM.lE e;rw [if_neg (bR rfl)];exact⟨ρ3,S3,(V1.comp V2).comp V3,.bool _⟩
 |true=>
  rw [if_pos rfl];obtain⟨z,m4,e4,e⟩:=MM.bind_some e;obtain⟨q,m5,e5,e⟩:=MM.bind_some e;obtain⟨rfl,rfl⟩:=MM.lE e;have F2:=(F.dQ V1).dQ V2;refine(h2 _ _ A _ _ _ _ _ _ hA S3 (F2.dQ V3)).step e4 fun d s4 ρ4 S4 V4 r4=> ?_;refine(px _ _ A _ _ _ _ _ _ _ _ (hA.less (Nat.zero_le _)) S4 ((r2.mono V3.mono).mono V4.mono) r4).step e5 fun v s5 ρ5 S5 V5 r5=> ?_;subst r5;exact⟨ρ5,S5,(((V1.comp V2).comp V3).comp V4).comp V5,.bool _⟩
theorem Iw{y:Expr}{cy:av->MM MV}(hx:cD n sg x cx)(hy:cD n sg y cy):
  cD n sg (.BoolOp .And [x,y] p) fun fr=>MM.bind (cx fr) fun a=>MM.bind (u_ a) fun t=>bif t then cy fr else MM.ret (.bool false):=by
 intro prog w A g env fr s ρ m hA S F;refine .bind fun a m1 e1=> .bind fun t m2 e2=> .of fun b m' e=> ?_;refine af ((hx _ _ A _ _ _ _ _ _ hA S F).step e1 fun v s1 ρ1 S1 V1 r1=> ?_);obtain⟨b',hb,e2⟩:=bj e2;obtain rfl:=r1.CR hb;cases e2;refine af (bx (af (aK (aj (wpAny_truthy_bool ?_)))));cases t with
 |false=>
  obtain⟨rfl,rfl⟩:=MM.lE e;exact ax ⟨ρ1,S1,V1,.bool _⟩
 |true=>
  exact(hy _ _ A _ _ _ _ _ _ hA S1 (F.dQ V1)).step e fun v s2 ρ2 S2 V2 r2=>⟨ρ2,S2,V1.comp V2,r2⟩
noncomputable def SK(x:MV):MM MV:=fun m=>x.int?.bind fun k=>some (.int (-k),m)
theorem B_(hx:cD n sg x cx):cD n sg (.UnaryOp .USub x p) (oG cx SK):=by
 intro prog w A g env fr s ρ m hA S F;refine .bind fun a m1 e1=> .of fun b m' e=> ?_;refine af ((hx _ _ A _ _ _ _ _ _ hA S F).step e1 fun v s1 ρ1 S1 V1 r1=> ?_);obtain⟨k,hk,e⟩:=bj e;cases e;obtain⟨_,rfl⟩:=r1.iF hk;refine af (bx (aK (aj (neg_int ?_))));obtain⟨ρ2,S2,V2,r2⟩:=gN (T:=fo) (t:=s1.toks+1) S1 (.int _ _);exact⟨ρ2,S2,V1.comp V2,r2⟩
end
end
section
variable {env:Env}{e:Expr}{kk n:Nat}{A:Around}{es:List Expr}{p tp:Pos}{c:av->MM MV}{is:List Nat}{ρ:Nat->Addr}
section
variable {n:Nat}{sg:Sg}
noncomputable abbrev Ca(sg:Sg)(env:Env):Env:= {env with scope:= {env.scope with kind:= .function,names:=sg.nm}}
theorem Aa{t:Expr}(h:lR e=true):swapsWithSole [t] e n env=pure false:=by
 have:swapsWithSole [t] e n env=swapsWith e (some t) n env:=by unfold swapsWithSole;rfl
 rw [this];exact ky h
theorem sq(h:y8 sg env)(ts:List Expr)(v:Expr):swappedStores ts v env=swappedStores ts v (Ca sg env):=by
 have h1:env.scope= {env.scope with kind:= .function,names:=sg.nm}:=by
  have a:=h.kind;have b:=h.nm;generalize env.scope=sc at a b ⊢;cases sc;dsimp only at a b ⊢;subst a b
  rfl
 have h2:env=Ca sg env:=by
  generalize zo:env.scope=sc at h1;unfold Ca;rw [zo, <- h1];cases env;dsimp only at zo ⊢;rw [zo]
 rw [<- h2]
theorem vC{M:Model}{s:Shared}{mS:List Expr}{k:Nat}{vD:Pos}{value:Expr}{pos:Pos}{Q:Flow->Shared->Prop}
  (h:ay s cX A M (fun v s₁=>ay s₁ cX A M (fun O=>Q .next) (assign (.Tuple mS k vD) env v)) (eval value env))
  (hs:swapsWithSole [.Tuple mS k vD] value pos.line env=pure false)(hw:swappedStores [.Tuple mS k vD] value env=pure none):
  ay s cX A M Q (exec (.Assign [.Tuple mS k vD] value pos) env):=by
 rw [exec_Assign];refine af (bx ?_);rw [hs];refine af (ax ?_);rw [if_neg (by decide)];refine af (au h (fun v s₁ h₁=> ?_) fun O O x=>x);rw [hw];refine af (ax ?_);exact af (au h₁ (fun O O x=>ax x) fun O O x=>x)
theorem nI(h:cD n sg e c)(ht:ma false sg es is)(hc:lR e=true)
  (hw:∀env,swappedStores [.Tuple es kk tp] e (Ca sg env)=pure none):fY n sg (.Assign [.Tuple es kk tp] e p) (SM.use c (SM.unpack is)):=by
 intro prog w A g env fr s ρ m hA S F;refine .use fun v m1 e1=> .of fun f fE m' e=> ?_;refine vC ((h _ _ A _ _ _ _ _ _ hA S F).step e1 fun a s1 ρ1 S1 V1 r1=>aj ?_) (Aa hc) ((sq F.ev _ _).trans (hw env));exact fv ht _ _ A _ _ _ _ _ _ _ _ hA.2.2 S1 (F.dQ V1) r1 _ _ _ e _ _ fun s2 ρ2 S2 V2 F2 hf=>⟨ρ2,S2,V1.weak.comp V2,by subst hf;exact .next,F2⟩
inductive Ab (sg:Sg):List Str->List Nat->Prop where
 |nil:Ab sg [] []
 |cons {i:Nat} {x:Str} {es:List Str} {is:List Nat} (hk:sg.ks[i]? =some x) (h:Ab sg es is):Ab sg (x::es) (i::is)
theorem Ab.length{es:List Str}(h:Ab sg es is):es.length=is.length:=by
 induction h with
 |nil=>rfl
 |cons _ _ ih=>simp [ih]
theorem DJ{prog:Program}{w:World}{g:Heap}{m:MH}{es:List Str}(h:Ab sg es is):∀ {s:Shared} {fr:av} {ys:List MV} {vs:List Value} {K:Unit->Shared->Prop} {E:Value->Shared->Prop},
  OK prog w g s ρ m->dw sg env fr g s ρ m.n->bI ρ m.n s.heap ys vs->ys.length=is.length->(∀s',OK prog w g s' ρ m->dh (Own env) s ρ m s' ρ m->dw sg env (iS fr is ys) g s' ρ m.n->K () s')->
  wpAny (model prog w) A (assignInOrder (es.map fun e=>bindName env e) vs) K E s:=by
 induction h with
 |nil=>
  intro s fr ys vs K E S F r hl k;exact assignInOrder_nil (k s S .refl F)
 | @cons i x es is hk h ih=>
  intro s fr ys vs K E S F r hlen k;cases r with
  |nil=>simp at hlen
  | @cons y v ys vs r rs=>
   refine assignInOrder_cons (wpAny_bindName (nv i S F hk r fun s1 S1 V1 O F1=> ?_));exact ih S1 F1 (rs.mono V1.mono) (by simpa using hlen) fun s2 S2 V2 F2=>k s2 S2 (V1.comp V2) F2
noncomputable def SM.su(is:List Nat)(x:MV):SM:=fun fr m=>x.BO.bind fun xs=>if xs.length=is.length then some (.next,iS fr is xs.reverse,m) else none
theorem bI.reverse{h:Heap}{xs:List MV}{vs:List Value}(r:bI ρ n h xs vs):bI ρ n h xs.reverse vs.reverse:=by
 have q:=r.f2;clear r
 induction q with
 |nil=>exact .nil
 |cons a _ ih=>rw [List.reverse_cons,List.reverse_cons];exact ih.append (.cons a .nil)
theorem lH{names SN:List Str}(h:cD n sg e c)(ht:Ab sg SN is)(hr:names.reverse=SN)(hc:lR e=true)
  (hw:∀env,swappedStores [.Tuple es kk tp] e (Ca sg env)=pure (some names)):fY n sg (.Assign [.Tuple es kk tp] e p) (SM.use c (SM.su is)):=by
 intro prog w A g env fr s ρ m hA S F;refine .use fun v m' e1=> .opt fun xs hx=> .ite fun hl=> ?_;show ay _ _ _ _ _ _;rw [exec_Assign];refine af (bx ?_);rw [Aa hc];refine af (ax ?_);rw [if_neg (by decide)];refine af ((h _ _ A _ _ _ _ _ _ hA S F).step e1 fun a s1 ρ1 S1 V1 r1=> ?_);rw [(sq F.ev _ _).trans (hw env)];refine af (ax ?_);have F1:=F.dQ V1;obtain⟨vs,a,ep,ha,rs,rfl⟩:=r1.tupI hx;have DK:names.length=vs.toArray.size:=by
  rw [fX, <- rs.length,hl, <- ht.length, <- hr,List.length_reverse]
 refine aj (show wpAny _ _ (do rule "assign.swapped-stores";let items <- unpackItems (.ref a) names.length none;assignInOrder (names.reverse.map fun n=>bindName env n) items.reverse;pure Flow.next) _ _ _ from ?_);refine aN (wpAny_rule (aN ?_));rw [DK];refine unpackItems_tuple hA.2.2 ⟨_,ha,rfl,_,rfl⟩ fun h' he=> ?_;have hs:Sub s1.heap h':=fun b o e=>he b o (fun q=>by rw [q,cA] at e;cases e) e;have V0:dh fo s1 ρ1 m' {s1 with heap:=h'} ρ1 m':= .grow hs rfl rfl;rw [hr,List.toList_toArray];refine aN (DJ ht (S1.grow hs) (F1.dQ V0) (rs.mono V0.mono).reverse (by rw [List.length_reverse];exact hl) fun s2 S2 V2 F2=>cP ?_);exact⟨ρ1,S2,(V1.comp V0).weak.comp V2,.next,F2⟩
end
end
section
variable {P:List Value->Prop}{k n:Nat}{fd:FuncData}{ps:List Str}
theorem len0(h:P [])(us:List Value)(e:us.length=0):P us:=List.eq_nil_of_length_eq_zero e▸h
theorem FN(h:∀a us,us.length=n->P (a::us))(us:List Value)(e:us.length=n+1):P us:=by
 cases us with
 |nil=>exact Nat.noConfusion e
 |cons a us=>exact h a us (Nat.succ.inj e)
theorem gE(h:∀a,P [a]):∀us:List Value,us.length=1->P us:=FN fun a=>len0 (h a)
theorem iG(h:∀a b,P [a,b]):∀us:List Value,us.length=2->P us:=FN fun a=>gE (P:=fun us=>P (a::us)) (h a)
theorem qf(h:∀a b c,P [a,b,c]):∀us:List Value,us.length=3->P us:=FN fun a=>iG (P:=fun us=>P (a::us)) (h a)
theorem uc(h:∀a b c d,P [a,b,c,d]):∀us:List Value,us.length=4->P us:=FN fun a=>qf (P:=fun us=>P (a::us)) (h a)
theorem SO(h:∀a b c d e,P [a,b,c,d,e]):∀us:List Value,us.length=5->P us:=FN fun a=>uc (P:=fun us=>P (a::us)) (h a)
theorem aF(hk:ps.length=k)(h:∀us:List Value,us.length=k->bindArgs fd ⟨us, []⟩=pure (ps.zip us)):∀(w:World) (s:Shared) us,(KK w).In s.heap->us.length<=ps.length->ps.length<=us.length+([]:List Value).length->BindsTo s fd ⟨us, []⟩ (ps.zip (us++([]:List Value).drop (us.length+([]:List Value).length-ps.length))):=fun w s us O h1 h2=>by
 simp only [List.length_nil,Nat.add_zero,List.drop_nil,List.append_nil] at h2 ⊢;exact BindsTo.of_eq (h us (by exact ZU hk h1 h2))
theorem bO:∀(w:World) ρ n h,(KK w).In h->bI ρ n h [] []:=fun O O O O O=> .nil
theorem oX{f:Value}:dX n f fun O=>MM.fail:=fun O O O O O O O O O O O O=>True.intro
theorem sx{T:Addr}{oc:Value}{od:Option Addr}{we:Array (Option Value)}{d:Value}{ep:Nat}(hk:ps.length=k+1)(hd:fd.defaults= .ref T)(hT:∀w,(KK w).lookup T=some ⟨oc,od,.seq #[d] ep,we⟩)
  (h1:∀us:List Value,us.length=k+1->bindArgs fd ⟨us, []⟩=pure (ps.zip us)\/∃kk,bindArgs fd ⟨us, []⟩=seqItems? fd.defaults >>= kk/\kk (some #[d])=pure (ps.zip us))
  (h0:∀us:List Value,us.length=k->∃kk,bindArgs fd ⟨us, []⟩=seqItems? fd.defaults >>= kk/\kk (some #[d])=pure (ps.zip (us++ [d]))):
  ∀(w:World) (s:Shared) us,(KK w).In s.heap->us.length<=ps.length->ps.length<=us.length+ [d].length->BindsTo s fd ⟨us, []⟩ (ps.zip (us++ [d].drop (us.length+ [d].length-ps.length))):=fun w s us X a b=>by
 have hl: [d].length=1:=rfl;rw [hl] at b ⊢;have yV:us.length=k\/us.length=k+1:=by exact ZV hk a b
 rcases yV with h|h
 ·obtain⟨kk,e1,e2⟩:=h0 us h;have:us.length+1-ps.length=0:=by exact ZW hk h
  rw [this];exact BindsTo.of_defaults hd (X _ _ (hT w)) rfl e1 e2
 ·have:us.length+1-ps.length=1:=by exact ZX hk h
  rw [this];simp only [List.drop_succ_cons,List.drop_zero,List.append_nil];rcases h1 us h with e|⟨kk,e1,e2⟩
  ·exact BindsTo.of_eq e
  ·exact BindsTo.of_defaults hd (X _ _ (hT w)) rfl e1 e2
theorem U2{k:Int}{t:Tok}:∀(w:World) ρ n h,(KK w).In h->bI ρ n h [.int k] [.int k t]:=fun O O O O O=> .cons (.int _ _) .nil
section
variable {n:Nat}{sg:Sg}
theorem FO{aU iter dy:Expr}{ifs:List Expr}{sc:Scope}{pos p p':Pos}{a:Nat}{c:av->MM MV}(i:Nat){x:Str}(hk:sg.ks[i]? =some x)(hl:sg.nm.lookup x=some .cell)
  (h:cD n sg (.ListComp dy [⟨aU,iter,ifs,a⟩] sc pos) c):fY n sg (.Assign [.Name x p] (.ListComp dy [⟨aU,iter,ifs,a⟩] sc pos) p') (SM.use c (SM.put i)):=by
 intro prog w A g env fr s ρ m hA S F;refine .use fun v m1 e1=> ?_;have U3:∀line,swapsWith (.ListComp dy [⟨aU,iter,ifs,a⟩] sc pos) (some (.Name x p)) line env=pure false:=fun line=>by
  have hk:env.kindOf x=some .cell:=by unfold Env.kindOf;rw [F.ev.nm];exact hl
  refine E_.trans (congrArg pure ?_);rw [hk];cases(env.blockKind== .function) <;> rfl
 refine lC ((h _ _ A _ _ _ _ _ _ hA S F).step e1 fun a s1 ρ1 S1 V1 r1=> ?_) (U3 _);exact aj (nv i S1 (F.dQ V1) hk r1 fun s2 S2 V2 O F2=>⟨ρ1,S2,V1.weak.comp V2,.next,F2⟩)
end
noncomputable def Nu:List MV->MM MV:=yj fun x y m=>x.u5.bind fun x=>y.ij.bind fun i=>if x=⟨#[]⟩ then(m.ob i).gR.bind fun xs=>(strsOf xs).bind fun ns=>if JoinOk x ns=true then some (.str (Txt.join x ns),m) else none else none
theorem Nv:dX 0 (.builtin "str.join") Nu:=Ik fun prog w A g s ρ m x y v u hA S r r2=> .opt fun x hx=> .opt fun i hi=> .ite fun O=> .opt fun xs q1=> .opt fun ns q2=> .ite fun hz=>by
 obtain⟨_,rfl⟩:=r.xf hx;obtain⟨hi,rfl⟩:=r2.ik hi;obtain⟨us,ep,ho,rs⟩:=S.lst hi (MO.jO q1);obtain⟨ps,rfl,rfl⟩:=rs.strs q2;exact aj (SC.join (l:=ps) ⟨_,ho,rfl,_,rfl⟩ rfl hz fun t' k=>gN S (.str _ _))
end
section
open AutoSeq1 (wpAny_loadPart')
variable {e it:Addr}{i kk:Nat}{c:UInt8}{Q:Value->Shared->Prop}{old:Value}{es:List Expr}{tp:Pos}
section
variable {prog:Program}{w:World}{A:Around}{E:Value->Shared->Prop}{s:Shared}{b:Array UInt8}{t:Tok}
theorem uE(hit:KBw.IsBytesIter s.heap it b t i)(hx:b[i]? =some c)
  (hQ:∀h',KBw.IsBytesIter h' it b t (i+1)->Heap.SameBut it s.heap h'->Q (.int (c.toNat:Int) s.toks) {s with heap:=h',toks:=s.toks+1}):wpAny (model prog w) A (Builtin.SmallTypes.nextOf (.ref it)) Q E s:=by
 obtain⟨o,ho,hc,hd⟩:=id hit;unfold Builtin.SmallTypes.nextOf;refine aN (wpAny_callSpecial?_slot (name:=PySem.Str.ofString "__next__") (KBw.iter_typeIs hit) KBw.slot_next
  (wpAny_call_entry KBw.slot_next (KBw.iter_typeIs hit) KBw.entry_next ?_ (KBw.args_next _)))
 show wpAny _ _ (field (.ref it) 0 >>= _) _ _ s;refine aN (wpAny_field ho hd (x:= .bytes b t) rfl ?_);show wpAny _ _ (if(Value.bytes b t==Value.none)=true then _ else _) _ _ s;rw [if_neg (show¬((Value.bytes b t==Value.none)=true) from Bool.false_ne_true)];show wpAny _ _ (field (.ref it) 1 >>= _) _ _ s;refine aN (wpAny_field ho hd (x:= .int i 0) rfl ?_);refine aN (wpAny_of_eq (a:=b) rfl ?_);simp only [Int.toNat_natCast,hx];refine wpAny_bind (wpAny_setField ho hd (by simp) (wpAny_bind (wpAny_mkInt (wpAny_pure ⟨_,rfl,wpAny_pure (hQ _ ?_ (Heap.SameBut.update ..))⟩))));exact⟨_,Heap.get?_update_self _ ho (Obj.isFreed_of_fields (Obj.data_mapFields hd _)),(Obj.cls_mapFields ..).trans hc,by
  rw [Obj.data_mapFields hd];simp [rawInt]⟩
theorem vE(hh:A.handled=none)(hit:KBw.IsBytesIter s.heap it b t i)(hx:b[i]? =none)
  (hE:∀h' e,Heap.ExtBut it s.heap h'->(∃o,h'.get? e=some o/\o.cls= .type "StopIteration")->E (.ref e) {s with heap:=h'}):wpAny (model prog w) A (Builtin.SmallTypes.nextOf (.ref it)) Q E s:=by
 obtain⟨o,ho,hc,hd⟩:=id hit;unfold Builtin.SmallTypes.nextOf;refine aN (wpAny_callSpecial?_slot (name:=PySem.Str.ofString "__next__") (KBw.iter_typeIs hit) KBw.slot_next
  (wpAny_call_entry KBw.slot_next (KBw.iter_typeIs hit) KBw.entry_next ?_ (KBw.args_next _)))
 show wpAny _ _ (field (.ref it) 0 >>= _) _ _ s;refine aN (wpAny_field ho hd (x:= .bytes b t) rfl ?_);show wpAny _ _ (if(Value.bytes b t==Value.none)=true then _ else _) _ _ s;rw [if_neg (show¬((Value.bytes b t==Value.none)=true) from Bool.false_ne_true)];show wpAny _ _ (field (.ref it) 1 >>= _) _ _ s;refine aN (wpAny_field ho hd (x:= .int i 0) rfl ?_);refine aN (wpAny_of_eq (a:=b) rfl ?_);simp only [Int.toNat_natCast,hx];refine wpAny_bind (wpAny_rule (wpAny_bind (wpAny_setField ho hd (by simp) ?_)));show wpAny _ _ (newExc (.type "StopIteration") [] >>= _) _ _ _;refine aN ?_;refine aN (wpAny_newObj_type ?_ (by size_fits));refine wpAny_bind (m:=firstArgMember _ _) (wpAny_of_eq (a:=Value.none) (by first|rfl|(simp only [firstArgMember];rfl)) ?_);refine wpAny_newObj_type ?_ (by size_fits);refine wpAny_raiseNew_none hh ?_;exact hE _ _ (((Heap.SameBut.update ..).extBut.push _).push _) ⟨_,iR _ rfl,rfl⟩
theorem FP
  (he:IsEnum s.heap e it i old)(hit:KBw.IsBytesIter s.heap it b t i)(hx:b[i]? =some c)(i6:e≠it)
  (hQ:∀h' u u' tk,IsEnumOut h' e it ((i:Int)+1) (.int (c.toNat:Int) u) s.heap.objs.size->KBw.IsBytesIter h' it b t (i+1)->
   h'.get? s.heap.objs.size=some {cls:= .type "tuple",data:= .seq #[.int i u',.int (c.toNat:Int) u]}->
   (∀b o,b≠e->b≠it->s.heap.get? b=some o->h'.get? b=some o)->Q (.ref s.heap.objs.size) {s with heap:=h',toks:=tk}):
  wpAny (model prog w) A (Builtin.«enumerate.__next__» ⟨[.ref e], []⟩) (fun fin s'=>∃v,fin= .done (.ret v)/\Q v s') E s:=by
 obtain⟨hp,g,d,tk,os⟩:=s;show wpAny _ _ (field (.ref e) 2 >>= _) _ _ _;refine aN (wpAny_field he rfl (x:= .ref it) rfl ?_);refine aN (uE hit hx fun h₁ SP KP=> ?_)
 replace KP:Heap.SameBut it hp h₁:=KP
 have Qr:IsEnum h₁ e it i old:=(KP.2 e i6).trans he;show wpAny _ _ (field (.ref e) 3 >>= _) _ _ ⟨h₁,g,d,tk+1,os⟩;refine aN (wpAny_field Qr rfl (x:=rawInt i) rfl ?_);show wpAny _ _ (field (.ref e) 4 >>= _) _ _ ⟨h₁,g,d,tk+1,os⟩;refine aN (wpAny_field Qr rfl (x:= .none) rfl ?_);show wpAny _ _ (mkInt i >>= _) _ _ ⟨h₁,g,d,tk+1,os⟩;refine aN (wpAny_mkInt ?_);show wpAny _ _ (setField (.ref e) 3 (rawInt ((i:Int)+1)) >>= _) _ _ ⟨h₁,g,d,tk+1+1,os⟩;refine wpAny_bind (wpAny_setField_rec Qr (by simp) fun h₂ Qs KQ=> ?_)
 replace KQ:Heap.SameBut e h₁ h₂:=KQ
 replace Qs:IsEnum h₂ e it ((i:Int)+1) old:=Qs
 show wpAny _ _ (setField (.ref e) 4 .none >>= _) _ _ ⟨h₂,g,d,tk+1+1,os⟩;refine wpAny_bind (wpAny_setField_rec Qs (by simp) fun h₃ Qt KR=> ?_)
 replace KR:Heap.SameBut e h₂ h₃:=KR
 replace Qt:IsEnum h₃ e it ((i:Int)+1) old:=Qt
 show wpAny _ _ (newTuple [.int i (tk+1),.int (c.toNat:Int) tk] >>= _) _ _ ⟨h₃,g,d,tk+1+1,os⟩;refine aN (wpAny_newTuple ?_);have Qu:IsEnum (h₃.push {cls:= .type "tuple",data:= .seq #[.int i (tk+1),.int (c.toNat:Int) tk]}) e it ((i:Int)+1) old:=gT _ Qt;generalize Qv:h₃.push {cls:= .type "tuple",data:= .seq #[.int i (tk+1),.int (c.toNat:Int) tk]}=h₄ at Qu;have hsz:h₃.objs.size=hp.objs.size:=by rw [KR.1,KQ.1,KP.1]
 have DL:e<hp.objs.size:=Heap.lt_size he;have ht₄:h₄.get? hp.objs.size=some {cls:= .type "tuple",data:= .seq #[.int i (tk+1),.int (c.toNat:Int) tk]}:=by rw [<- Qv, <- hsz];exact iR _ rfl
 have hk₄:∀b o,b≠e->b≠it->hp.get? b=some o->h₄.get? b=some o:=fun b o Iy U4 hb=>by
  rw [<- Qv];exact gT _ (KR.extBut b o Iy (KQ.extBut b o Iy (KP.extBut b o U4 hb)))
 have Nw:it≠e:=Ne.symm i6;have ad5:KBw.IsBytesIter h₄ it b t (i+1):=by
  rw [<- Qv];obtain⟨o,ho,r⟩:=SP;exact⟨o,gT _ (KR.extBut _ _ Nw (KQ.extBut _ _ Nw ho)),r⟩
 show wpAny _ _ (Builtin.SmallTypes.ownedTupleIsFree (.ref e) >>= _) _ _ ⟨h₄,g,d,tk+1+1,os⟩;rw [hsz];clear Qv Qt KR Qs KQ Qr KP SP hsz h₃ h₂ h₁;refine aN ?_;unfold Builtin.SmallTypes.ownedTupleIsFree;refine aN (wpAny_field Qu rfl (x:= .none) rfl (cP ?_));simp only [if_true];refine aN (wpAny_rule ?_);refine aN (wpAny_field Qu rfl (x:=old) rfl ?_);refine wpAny_bind (wpAny_setField_rec Qu (by simp) fun h₅ U5 Nx=> ?_)
 replace Nx:Heap.SameBut e h₄ h₅:=Nx
 replace U5:IsEnum h₅ e it ((i:Int)+1) (.int (c.toNat:Int) tk):=U5
 show wpAny _ _ (Builtin.SmallTypes.ownedTupleHandOut (.ref e) (.ref hp.objs.size) >>= _) _ _ ⟨h₅,g,d,tk+1+1,os⟩;refine aN ?_;unfold Builtin.SmallTypes.ownedTupleHandOut;refine wpAny_bind (wpAny_setField_rec U5 (by simp) fun h₆ U6 Ny=> ?_)
 replace Ny:Heap.SameBut e h₅ h₆:=Ny
 replace U6:IsEnumOut h₆ e it ((i:Int)+1) (.int (c.toNat:Int) tk) hp.objs.size:=U6
 refine wpAny_setField_rec U6 (by simp) fun h₇ U7 Nz=> ?_
 replace Nz:Heap.SameBut e h₆ h₇:=Nz
 replace U7:IsEnumOut h₇ e it ((i:Int)+1) (.int (c.toNat:Int) tk) hp.objs.size:=U7
 refine aN (wpAny_letGo (cP ⟨_,rfl,hQ h₇ tk (tk+1) _ U7 ?_ ?_ ?_⟩))
 ·obtain⟨o,ho,r⟩:=ad5;exact⟨o,Nz.extBut _ _ Nw (Ny.extBut _ _ Nw (Nx.extBut _ _ Nw ho)),r⟩
 ·exact Nz.extBut _ _ (Nat.ne_of_gt DL) (Ny.extBut _ _ (Nat.ne_of_gt DL) (Nx.extBut _ _ (Nat.ne_of_gt DL) ht₄))
 ·exact fun b o Iy U4 hb=>Nz.extBut b o Iy (Ny.extBut b o Iy (Nx.extBut b o Iy (hk₄ b o Iy U4 hb)))
theorem uF{Q:Option Value->Shared->Prop}
  (he:IsEnum s.heap e it i old)(hit:KBw.IsBytesIter s.heap it b t i)(hx:b[i]? =some c)(i6:e≠it)
  (hQ:∀h' u u' tk,IsEnumOut h' e it ((i:Int)+1) (.int (c.toNat:Int) u) s.heap.objs.size->KBw.IsBytesIter h' it b t (i+1)->
   h'.get? s.heap.objs.size=some {cls:= .type "tuple",data:= .seq #[.int i u',.int (c.toNat:Int) u]}->
   (∀b o,b≠e->b≠it->s.heap.get? b=some o->h'.get? b=some o)->Q (some (.ref s.heap.objs.size)) {s with heap:=h',toks:=tk}):
  wpAny (model prog w) A (pyNext (.ref e)) Q E s:=by
 have hT:s.TypeIs (.ref e) "enumerate":=⟨_,he,rfl⟩;exact aN (wpAny_attempt (wpAny_callSpecial?_slot (name:=Str.ofString "__next__") hT F.slot_enumerate_next
  (wpAny_call_entry F.slot_enumerate_next hT F.entry_enumerate_next
   (FP he hit hx i6 fun h' u u' tk a b c k=>cP (hQ h' u u' tk a b c k)) (F.args_enumerate_next_1 _))))
theorem vF{Q:Option Value->Shared->Prop}(hh:A.handled=none)
  (he:IsEnum s.heap e it i old)(hit:KBw.IsBytesIter s.heap it b t i)(hx:b[i]? =none)
  (hQ:∀h',Heap.ExtBut it s.heap h'->Q none {s with heap:=h'}):wpAny (model prog w) A (pyNext (.ref e)) Q E s:=by
 have hT:s.TypeIs (.ref e) "enumerate":=⟨_,he,rfl⟩;refine aN (wpAny_attempt (wpAny_callSpecial?_slot (name:=Str.ofString "__next__") hT F.slot_enumerate_next
  (wpAny_call_entry F.slot_enumerate_next hT F.entry_enumerate_next ?_ (F.args_enumerate_next_1 _))))
 show wpAny _ _ (field (.ref e) 2 >>= _) _ _ _;refine aN (wpAny_field he rfl (x:= .ref it) rfl ?_);refine aN (vE hh hit hx fun h' x U8 Us=> ?_);obtain⟨o,ho,hc⟩:=Us;refine aN (wpAny_isInstance (T:="StopIteration") (b:=true) ⟨o,ho,hc⟩ isSubtype_stop ?_);exact cP (hQ _ U8)
end
theorem Bp{M:Model}{A:Around}{b:Bool}{Q:Bool->Shared->Prop}{E:Value->Shared->Prop}{s:Shared}(h0:Q false s)(h1:Q true s):wpAny M A (pure b) Q E s:=cP (by cases b;exact h0;exact h1)
set_option maxHeartbeats 1000000 in
theorem wK(x:Array UInt8)(t:Tok):
  Meets (Builtin.«enumerate.__new__» ⟨[.type "enumerate",.bytes x t], []⟩) (fun O R s=>
   R (.ok (.ret (.ref (s.heap.push {cls:= .type "bytes_iterator",data:= .fields #[.bytes x t,.int 0 0]}).objs.size)))
    {s with heap:=(s.heap.push {cls:= .type "bytes_iterator",data:= .fields #[.bytes x t,.int 0 0]}).push {cls:= .type "enumerate",data:= .fields #[.none,.bool false,.ref s.heap.objs.size,rawInt 0,.none,.none]}}):=
 .of_wp fun prog w A R s h=>by
  obtain⟨hp,g,d,tk,os⟩:=s;have rU:=sub_enumerate
  wp_walk
  refine wpAny_stack_any fun st=>Bp ?_ ?_
  ·wp_walk using KBw.pyIter_bytes
   exact⟨_,rfl,h⟩
  ·wp_walk using KBw.pyIter_bytes
   exact⟨_,rfl,h⟩
noncomputable def enumSrc(x:MV):MM Src:=fun m=>x.qv.bind fun b=>some (⟨fun O=>some b.length,fun k O=>b[k]?.map fun c=> .tup [.int (k:Int),.int (c.toNat:Int)]⟩,m)
theorem Iz{prog:Program}{w:World}{g:Heap}{A:Around}{b:List UInt8}{t:Tok}{J:Addr}{ρ0:Nat->Addr}{n0:Nat}(hh:A.handled=none)(i6:e≠J):
  kQ prog w g A (.Tuple es kk tp) ⟨fun O=>some b.length,fun k O=>b[k]?.map fun c=> .tup [.int (k:Int),.int (c.toNat:Int)]⟩ b.length (.ref e) (fun a=>a=e\/a=J)
   (fun k h=>(∃old,IsEnum h e J (k:Int) old)/\KBw.IsBytesIter h J b.toArray t k) (fun k h u=>(∃old T,u= .ref T/\IsEnumOut h e J (k:Int) old T)/\KBw.IsBytesIter h J b.toArray t k) ρ0 n0 where
 ve:=fun k h h' q kp=>⟨q.1.imp fun O=>kp _ _ (.inl rfl),q.2.imp fun O a=>⟨kp _ _ (.inr rfl) a.1,a.2⟩⟩
 ex:=fun k h q c hc=>hc.elim (fun z=>q.1.elim fun O a=>⟨_,z▸a,iu rfl rfl rfl⟩) fun z=>q.2.imp fun O a=>⟨z▸a.1,iu a.2.1 rfl rfl⟩
 PK:=fun k h u q c hc=>hc.elim (fun z=>q.1.elim fun O a=>a.elim fun O a=>⟨_,z▸a.2,iu rfl rfl rfl⟩) fun z=>q.2.imp fun O a=>⟨z▸a.1,iu a.2.1 rfl rfl⟩
 next:=fun s ρ m k v K hk S h4 h5 h6 h7 hI H q=>by
  obtain⟨⟨old,a⟩,hit⟩:=hI;cases hc:b[k]? with
  |none=>simp only [hc] at h7;cases h7
  |some c=>
   simp only [hc,Option.map_some,Option.some.injEq] at h7;subst h7;refine aj (uF a hit (c:=c) (by simpa using hc) i6 fun h' u u' tk he hJ hT CG=> ?_);refine q (.ref s.heap.objs.size) _ ⟨fun x o hx e=>CG x o (fun z=>hx (.inl z)) (fun z=>hx (.inr z)) e,rfl,rfl⟩ ⟨⟨_,_,rfl,by push_cast;exact he⟩,hJ⟩ ?_;exact .tup (vs:= [.int k u',.int (c.toNat:Int) u]) (e:=0) hT (.cons (.int _ _) (.cons (.int _ _) .nil))
 done:=fun s ρ m K S h4 h5 h6 hI H q=>by
  obtain⟨⟨old,a⟩,hit⟩:=hI;refine aj (vF hh a hit (by simp) fun h' he=> ?_);exact q _ ⟨fun x o hx e=>he x o (fun z=>hx (.inr z)) e,rfl,rfl⟩
 self:=fun k s K hI q=>hI.1.elim fun O a=>aj (wpAny_pyIter_enum a q)
 quiet:=fun k s u K hI q=>by
  obtain⟨⟨old,T,hu,a⟩,o,ho,r⟩:=hI;subst hu;refine aj (wpAny_letOwnedTupleGo_enum a fun h' he hs=> ?_);exact q _ ⟨fun x o hx e=>(hs.2 x (fun z=>hx (.inl z))).trans e,rfl,rfl⟩ ⟨⟨_,he⟩,o,(hs.2 J (Ne.symm i6)).trans ho,r⟩
section
variable {n:Nat}{sg:Sg}
theorem Ac{e:Expr}{p pos:Pos}{c:av->MM MV}(qx:("enumerate":Str)∈sg.gs)(hv:bF "enumerate" (.fn (.type "enumerate")))(h:cD n sg e c)(hs:∀env,starEach [e] env= [(false,eval e env)]):
  EV n sg (.Tuple es kk tp) (.Call (.Name "enumerate" p) [e] [] pos) (oG c enumSrc):=by
 intro prog w g A env fr s ρ m hA S F src m' ee k hk K q;obtain⟨x,m1,e1,ee⟩:=MM.bind_some ee;refine iE ((bA (n:=n) (p:=p) qx hv _ _ A _ _ _ _ _ _ hA S F).step (m':=m) rfl fun a s1 ρ1 S1 V1 r1=> ?_);obtain rfl:=r1.rr rfl;have ha:nP n sg [e] _:=eS h ab hs;refine wj ha (fun env=>hs env) (aG rfl) hA S1 (F.dQ V1) (xs:= [x]) (m':=m1) (by show MM.bind (c fr) _ m=_;unfold MM.bind;rw [e1];rfl) fun vs s2 ρ2 S2 V2 r2=> ?_;cases r2 with
 |cons r rs=>
  cases rs;obtain⟨b,hb,ee⟩:=bj ee;obtain⟨t,rfl⟩:=r.u6 hb;cases ee;cases hk;refine aj (callType_new PySem.F.called_enumerate rfl (PySem.F.typeCall_enumerate_1 _) (PySem.F.newCall_enumerate_1 _) (fun obj=>PySem.F.args_object_init_2 obj _) PySem.F.entry_enumerate_new (wK b.toArray t) ?_);have wD:Sub s2.heap ((s2.heap.push {cls:= .type "bytes_iterator",data:= .fields #[.bytes b.toArray t,.int 0 0]}).push {cls:= .type "enumerate",data:= .fields #[.none,.bool false,.ref s2.heap.objs.size,rawInt 0,.none,.none]}):=fun a o e=>gT _ (gT _ e);have hsz:(s2.heap.push {cls:= .type "bytes_iterator",data:= .fields #[.bytes b.toArray t,.int 0 0]}).objs.size=s2.heap.objs.size+1:=Heap.size_push ..;have hE:((s2.heap.push {cls:= .type "bytes_iterator",data:= .fields #[.bytes b.toArray t,.int 0 0]}).push {cls:= .type "enumerate",data:= .fields #[.none,.bool false,.ref s2.heap.objs.size,rawInt 0,.none,.none]}).get? (s2.heap.push {cls:= .type "bytes_iterator",data:= .fields #[.bytes b.toArray t,.int 0 0]}).objs.size=some {cls:= .type "enumerate",data:= .fields #[.none,.bool false,.ref s2.heap.objs.size,rawInt 0,.none,.none]}:=iR _ rfl;have n1:s2.heap.get? (s2.heap.push {cls:= .type "bytes_iterator",data:= .fields #[.bytes b.toArray t,.int 0 0]}).objs.size=none:=by
   rw [hsz];cases z:s2.heap.get? (s2.heap.objs.size+1) with
   |none=>rfl
   |some o=>exact absurd (Heap.lt_size z) (Nat.not_lt.mpr (Nat.le_succ _))
  refine⟨⟨_,hE,rfl⟩, ?_⟩;refine aj (wpAny_pyIter_enum (i:=0) (old:= .none) (e:=(s2.heap.push {cls:= .type "bytes_iterator",data:= .fields #[.bytes b.toArray t,.int 0 0]}).objs.size) (it:=s2.heap.objs.size) hE ?_);have V:dh fo s1 ρ1 m _ ρ2 m':=V2.comp (.grow (s':= {s2 with heap:=(s2.heap.push {cls:= .type "bytes_iterator",data:= .fields #[.bytes b.toArray t,.int 0 0]}).push {cls:= .type "enumerate",data:= .fields #[.none,.bool false,.ref s2.heap.objs.size,rawInt 0,.none,.none]}}) wD rfl rfl);refine q _ _ ρ2 (fun a=>a=(s2.heap.push {cls:= .type "bytes_iterator",data:= .fields #[.bytes b.toArray t,.int 0 0]}).objs.size\/a=s2.heap.objs.size) _ _ (S2.grow wD) (V1.comp V) (fun a ha=> ?_) ⟨⟨_,hE⟩,⟨_,gT _ (iR _ rfl),rfl,rfl⟩⟩ (Iz (t:=t) hA.2.2 (by rw [hsz];exact Nat.succ_ne_self _));have n2:s2.heap.get? a=none:=by
   rcases ha with rfl|rfl
   ·exact n1
   ·exact cA _
  exact⟨V1.old (V2.old n2),S2.lD n2⟩
end
end
section
variable {fd:FuncData}{oc:Value}{od:Option Addr}{we:Array (Option Value)}{n:Nat}{f:Addr}
theorem FQ{ps:List Str}{k:Nat}{T:Addr}{d1 d2:Value}{ep:Nat}(hk:ps.length=k+2)(hd:fd.defaults= .ref T)(hT:∀w,(KK w).lookup T=some ⟨oc,od,.seq #[d1,d2] ep,we⟩)
  (h2:∀us:List Value,us.length=k+2->∃kk,bindArgs fd ⟨us, []⟩=seqItems? fd.defaults >>= kk/\kk (some #[d1,d2])=pure (ps.zip us))
  (h1:∀us:List Value,us.length=k+1->∃kk,bindArgs fd ⟨us, []⟩=seqItems? fd.defaults >>= kk/\kk (some #[d1,d2])=pure (ps.zip (us++ [d2])))
  (h0:∀us:List Value,us.length=k->∃kk,bindArgs fd ⟨us, []⟩=seqItems? fd.defaults >>= kk/\kk (some #[d1,d2])=pure (ps.zip (us++ [d1,d2]))):
  ∀(w:World) (s:Shared) us,(KK w).In s.heap->us.length<=ps.length->ps.length<=us.length+ [d1,d2].length->BindsTo s fd ⟨us, []⟩ (ps.zip (us++ [d1,d2].drop (us.length+ [d1,d2].length-ps.length))):=fun w s us X a b=>by
 have hl: [d1,d2].length=2:=rfl;rw [hl] at b ⊢;have yV:us.length=k\/us.length=k+1\/us.length=k+2:=by exact XF hk a b
 rcases yV with h|h|h
 ·obtain⟨kk,e1,e2⟩:=h0 us h;rw [show us.length+2-ps.length=0 by exact XG hk h];exact BindsTo.of_defaults hd (X _ _ (hT w)) rfl e1 e2
 ·obtain⟨kk,e1,e2⟩:=h1 us h;rw [show us.length+2-ps.length=1 by exact XH hk h];exact BindsTo.of_defaults hd (X _ _ (hT w)) rfl e1 e2
 ·obtain⟨kk,e1,e2⟩:=h2 us h;rw [show us.length+2-ps.length=2 by exact XI hk h];simp only [List.drop_succ_cons,List.drop_zero,List.append_nil];exact BindsTo.of_defaults hd (X _ _ (hT w)) rfl e1 e2
def nJ(n:Nat)(f:Value)(pre:Nat)(names:List Str)(c:List MV->MM MV):Prop:=
 ∀prog w A g s ρ m xs vs,dj n A->OK prog w g s ρ m->bI ρ m.n s.heap xs vs->j6 prog w g A (.call f ⟨vs.take pre,names.zip (vs.drop pre)⟩) (c xs m) s ρ m
noncomputable def FU(sel:List MV->Option (List MV))(r:Nat)(c:SM):List MV->MM MV:=fun xs m=>(sel xs).bind fun ys=>endOf (c (ys.map some++List.replicate r none) m)
theorem KS{body:List Stmt}{c:SM}(ps rest gs:List Str)(pre:Nat)(names:List Str)(sel:List MV->Option (List MV))
  (hf:∀w,(KK w).lookup f=some ⟨oc,od,.func fd,we⟩)(hb:fd.body= .stmts body)(qn:∀w,codeIn (KK w) fd.code fd.qualname=true)(zk:fd.globals=mainGlobals)(zl:fd.builtins=builtinsNs)(u4:fd.closure= [])
  (ad7:∀w (s:Shared) ρ n xs vs ys,(KK w).In s.heap->bI ρ n s.heap xs vs->sel xs=some ys->∃us,bI ρ n s.heap ys us/\ps.length=us.length/\BindsTo s fd ⟨vs.take pre,names.zip (vs.drop pre)⟩ (ps.zip us))
  (vh:BU ⟨ps++rest,gs,fd.scope.names⟩ fd.scope=true)(hS:qX n ⟨ps++rest,gs,fd.scope.names⟩ body c):nJ (n+1) (.ref f) pre names (FU sel rest.length c):=by
 intro prog w A g s ρ m xs vs hA S r;show j6 prog w g A _ (Option.bind _ _) s ρ m;cases A4:sel xs with
 |none=>exact True.intro
 |some ys=>
  obtain⟨us,hr,hlen,qr⟩:=ad7 w s ρ m.n xs vs ys S.now.X r A4;exact j6.endOf fun e rW=>xl (S.now.X _ _ (hf w)) rfl hb (codeRec_of S.now.X (qn w)) zk zl u4 qr vh hlen hS hA S hr e rW
theorem DN{C:Addr}{names:List Str}{ci:List MV->MM MV}(M:nc C f)(h:nJ n (.ref f) 1 names ci):nJ (n+1) (.ref C) 0 names (Js C ci):=by
 intro prog w A g s ρ m xs vs hA S r;show j6 prog w g A _ (Option.bind _ _) s ρ m;cases e1:ci (.obj m.n::xs) ((m.new (.inst C)).new (.dP [])) with
 |none=>exact True.intro
 |some z=>
 obtain⟨z,m'⟩:=z;cases z <;> try exact True.intro
 obtain⟨PY,PZ,P0⟩:=M w;have X:=S.now.X;obtain⟨S2,V2⟩:=Ff (C:=C) S;obtain⟨h0,gg,d,t,os⟩:=s;refine MC (makes_of X PY) (looks_findIn X PZ) (fun self=>bind_fn X self P0) (.inl rfl) ?_;have ui:a_ (eQ (eQ ρ m.n (h0.objs.size+1)) (m.n+1) h0.objs.size) (m.n+1+1) ((h0.push emptyDict).push (instObj C h0.objs.size)) (.obj m.n) (.ref (h0.objs.size+1)):=by
  have:=a_.obj (ρ:=eQ (eQ ρ m.n (h0.objs.size+1)) (m.n+1) h0.objs.size) (n:=m.n+1+1) (h:=(h0.push emptyDict).push (instObj C h0.objs.size)) (i:=m.n) (by exact Rk);rw [fD (gA _),el] at this;exact this
 refine gB ((h _ _ (A.under (.builtin "type.__call__" ⟨.ref C::vs.take 0,names.zip (vs.drop 0)⟩)) _ _ _ _ _ _ hA.under S2 (.cons ui (r.mono V2.mono))).at e1) fun r s' hq=> ?_;obtain⟨v,er,ρ',S',V',q⟩:=hq;subst er;cases q;exact⟨rfl,_,rfl,ρ',S',V2.comp V',ui.mono V'.mono⟩
section
variable {n:Nat}{sg:Sg}
theorem KU{j:Nat}{id:Str}{p pos:Pos}{f:Value}{n1 n2 n3 n4:Str}{i1 i2 i3 i4:Int}{k1 k2 k3 k4:Nat}{p1 p2 p3 p4 q1 q2 q3 q4:Pos}{c:List MV->MM MV}(qx:id∈sg.gs)(hv:bF id (.fn f))(hk:cE f)(hf:nJ j f 0 [n1,n2,n3,n4] c)(hj:j<=n):
  cD n sg (.Call (.Name id p) [] [⟨some n1,.Constant (.int i1) k1 p1,q1⟩,⟨some n2,.Constant (.int i2) k2 p2,q2⟩,⟨some n3,.Constant (.int i3) k3 p3,q3⟩,⟨some n4,.Constant (.int i4) k4 p4,q4⟩] pos) fun O=>c [.int i1,.int i2,.int i3,.int i4]:=by
 intro prog w A g env fr s ρ m hA S F;refine .of fun b m' e=> ?_;refine af ((bA (n:=n) (p:=p) qx hv _ _ A _ _ _ _ _ _ hA S F).step (m':=m) rfl fun a s1 ρ1 S1 V1 r1=> ?_);obtain rfl:=r1.rr rfl;refine lP (P:=fun h=>(KK w).In h) rfl (fun h X=>hk prog w h X) ?_;have one:∀ {i:Int} {k:Nat} {p:Pos} {s2:Shared} {K:Value->Shared->Prop},OK prog w g s2 ρ1 m->(∀t s3,OK prog w g s3 ρ1 m->dh fo s2 ρ1 m s3 ρ1 m->K (.int i t) s3)->
   ay s2 cX A (model prog w) K (do let v <- eval (.Constant (.int i) k p) env;standAt pos;pure v):=fun {i k p s2 K} S2 q=>by
  refine af (aj (wpAny_Constant_int ?_));refine af (bx (ax (q _ _ (S2.grow (s':= {s2 with toks:=s2.toks+1}) fun O O e=>e) (.grow (s':= {s2 with toks:=s2.toks+1}) (fun O O e=>e) rfl rfl))))
 refine af ?_;refine ax ?_;refine af (ax ?_);refine aK ?_;refine af ?_;refine af (one S1 fun t1 s2 S2 V2=> ?_);refine af (aK ?_);refine af (one S2 fun t2 s3 S3 V3=> ?_);refine af (aK ?_);refine af (one S3 fun t3 s4 S4 V4=> ?_);refine af (aK ?_);refine af (one S4 fun t4 s5 S5 V5=> ?_);refine af (aK ?_);refine ax (ax (ax (ax (ax ?_))));refine af (ax (ax ⟨S5.now.X, ?_⟩));refine iJ (gB ((hf _ _ A _ _ _ _ [.int i1,.int i2,.int i3,.int i4] [.int i1 t1,.int i2 t2,.int i3 t3,.int i4 t4] (hA.less hj) S5 (.cons (.int _ _) (.cons (.int _ _) (.cons (.int _ _) (.cons (.int _ _) .nil))))).at e) fun r s' ⟨v,er,ρ',S',V',q⟩=> ?_);subst er;exact⟨ρ',S',((((V1.comp V2).comp V3).comp V4).comp V5).comp V',q⟩
end
end
section
variable {tk:Tok}{R:Result->Shared->Prop}{Q:Value->Shared->Prop}
theorem Bq:typeLookup (.type "list") "keys"=pure none:=by rw [typeLookup_type,builtinLookup_eq_fast];kernel_rfl
theorem DO:typeLookup (.type "list") "__getattr__"=pure none:=by rw [typeLookup_type,builtinLookup_eq_fast];kernel_rfl
section
variable {prog:Program}{w:World}{A:Around}{E:Value->Shared->Prop}{h:Heap}{g:Array GenState}{d:Drawn}{t:Nat}{os:OsState}{a:Addr}{vs:List Value}{n:Nat}
theorem wL{Q:Fin->Shared->Prop}(hh:A.handled=none)(hx:h.get? a=some (fP vs n))
  (hq:∀h' t' e,(∀b o,h.get? b=some o->h'.get? b=some o)->(∃o,h'.get? e=some o/\o.cls= .type "AttributeError")->E (.ref e) ⟨h',g,d,t',os⟩):
  wpAny (model prog w) A (Builtin.«object.__getattribute__» ⟨[.ref a,.str "keys" tk], []⟩) Q E ⟨h,g,d,t,os⟩:=by
 have hT:(⟨h,g,d,t,os⟩:Shared).TypeIs (.ref a) "list":=⟨_,hx,rfl⟩;have f4:=Bq
 repeat (any_goals (first|assumption|wp_step))
 refine wpAny_raiseAttrError hh (fun h' tk e N=> ?_) (by decide +kernel);obtain⟨u1,u2,he⟩:=N.there;exact hq _ _ _ N.keeps ⟨_,he,rfl⟩
theorem ym(hh:A.handled=none)(hx:h.get? a=some (fP vs n))
  (hq:∀h' t' e,(∀b o,h.get? b=some o->h'.get? b=some o)->(∃o,h'.get? e=some o/\o.cls= .type "AttributeError")->R (.error (.ref e)) ⟨h',g,d,t',os⟩):
  codeAny (model prog w) A (.call (.builtin "list.__getattribute__") ⟨[.ref a,.str "keys" tk], []⟩) R ⟨h,g,d,t,os⟩:=
 codeAny_call_builtin F.slot_list_getattribute.plain F.entry_list_ga (F.slot_list_getattribute.check _ _ _ _ _ _ _ _ (show(⟨h,g,d,t,os⟩:Shared).TypeIs (.ref a) "list" from⟨_,hx,rfl⟩) (F.args_list_getattribute_2 _ _) (wL hh hx hq))
theorem Br(hh:A.handled=none)(hx:h.get? a=some (fP vs n))
  (hq:∀h' t' e,(∀b o,h.get? b=some o->h'.get? b=some o)->(∃o,h'.get? e=some o/\o.cls= .type "AttributeError")->E (.ref e) ⟨h',g,d,t',os⟩):
  wpAny (model prog w) A (getAttrBy (.ref a) (.str "keys" tk) false) Q E ⟨h,g,d,t,os⟩:=by
 have hT:(⟨h,g,d,t,os⟩:Shared).TypeIs (.ref a) "list":=⟨_,hx,rfl⟩;have f2:=F.slot_list_getattribute.lookup;have f3:=F.slot_list_getattribute.bind (.ref a);have f4:=DO;have f5:=sub_AttributeError
 repeat (any_goals (first|assumption|wp_step))
 refine ym hh hx fun h' t' e hk hq=> ?_;obtain⟨o,ho,hc⟩:=hq;have hT2:(⟨h',g,d,t',os⟩:Shared).TypeIs (.ref e) "AttributeError":=⟨o,ho,hc⟩
 repeat (any_goals (first|assumption|wp_step))
 exact hq _ _ _ hk ⟨o,ho,hc⟩
theorem yn{Q:Option Value->Shared->Prop}(hh:A.handled=none)(hx:h.get? a=some (fP vs n))
  (hq:∀h' t',(∀b o,h.get? b=some o->h'.get? b=some o)->Q none ⟨h',g,d,t',os⟩):wpAny (model prog w) A (getAttr? (.ref a) "keys") Q E ⟨h,g,d,t,os⟩:=by
 have f5:=sub_AttributeError;unfold getAttr? getAttrBy?;refine aN (wpAny_mkText ?_);refine aN (wpAny_attempt (Br hh hx fun h' t' e hk hq=> ?_));obtain⟨o,ho,hc⟩:=hq;have hT2:(⟨h',g,d,t',os⟩:Shared).TypeIs (.ref e) "AttributeError":=⟨o,ho,hc⟩
 repeat (any_goals (first|assumption|wp_step))
 exact hq _ _ hk
end
theorem Ad:entryFor table "dict.update.loop"=some Builtin.«dict.update.loop»:=entryFor_of_tree (by kernel_rfl)
theorem qH:plainId "dict.update.loop"=true:=by decide +kernel
section
variable {prog:Program}{w:World}{A:Around}{E:Value->Shared->Prop}{s:Shared}{l tt:Addr}{n ep:Nat}{k:Int}{u:Tok}{v:Value}
theorem KV{d I:Addr}(hh:A.handled=none)(hI:s.heap.IsListIter I l 0)(hl:s.heap.get? l=some (fP [.ref tt] n))(ht:s.heap.get? tt=some (tS [.int k u,v] ep))(hd:s.heap.DictOf (intKind prog w) d [])
  (h1:l≠I)(h2:tt≠I)(h3:d≠I)(h4:l≠d)(h5:I≠d)
  (h:∀h' tk,(∀b o,b≠I->b≠d->s.heap.get? b=some o->h'.get? b=some o)->h'.DictOf (intKind prog w) d [(k,v)]->R (.ok (.ret .none)) {s with heap:=h',toks:=tk}):
  codeAny (model prog w) A (.builtin "dict.update.loop" ⟨[.ref d,.ref I,rawInt 0,.none], []⟩) R s:=by
 have hL:s.heap.IsList l #[.ref tt]:=⟨_,hl,rfl,_,rfl⟩;refine codeAny_builtin Ad ?_;rw [Around.under_plainId qH _];show wpAny _ A.in1 (pyNext (.ref I) >>= _) _ _ s;refine aN (wpAny_pyNext_list_item hI hL (x:= .ref tt) rfl fun ha hIa Qw=> ?_);have hta:ha.get? tt=some (tS [.int k u,v] ep):=(Qw.2 _ h2).trans ht;have hda:ha.DictOf (intKind prog w) d []:=hd.sameBut Qw h3;refine aN (wpAny_holding (aN (wpAny_tryCatch ?_)));show wpAny _ A.in1 (typeOf (.ref tt) >>= _) _ _ _;refine aN (wpAny_typeOf (T:="tuple") ⟨_,hta,rfl⟩ ?_);rw [if_pos (by decide)];refine aN (wpAny_seqItems hta rfl (cP ?_));show wpAny _ A.in1 (holding [.int k u,v] (dictSet d (.int k u) v)) _ _ _;refine wpAny_holding (wpAny_dictSet_pairs (knd:=intKind prog w) (k:=k) (by simp [intKind,Value.isInt]) hda fun hb hdb um=> ?_);have hIb:hb.IsListIter I l 1:=by obtain⟨o,ho,r⟩:=hIa;exact⟨o,(um.2 _ h5).trans ho,r⟩
 have hLb:hb.IsList l #[.ref tt]:=by obtain⟨o,ho,r⟩:=hL;exact⟨o,(um.2 _ h4).trans ((Qw.2 _ h1).trans ho),r⟩
 refine cP ⟨plainId_quiet qH _,codeAny_builtin Ad ?_⟩;rw [Around.under_plainId qH _];show wpAny _ A.in1 (pyNext (.ref I) >>= _) _ _ _;refine aN (wpAny_pyNext_list_end (A:=A.in1) hh hIb hLb rfl fun hc Qx=> ?_);show wpAny _ A.in1 (Builtin.Dict.addKeywords d [] >>= fun O=>ret .none) _ _ _;refine aN (cP (cP ?_));refine h hc _ (fun b o KW hb2 e=>Qx b o KW ((um.2 b hb2).trans ((Qw.2 b KW).trans e))) ?_;obtain⟨o,es,CV,ho,r⟩:=hdb;exact⟨o,es,CV,Qx _ _ h3 ho,r⟩
theorem yo(hh:A.handled=none)(hl:s.heap.get? l=some (fP [.ref tt] n))(ht:s.heap.get? tt=some (tS [.int k u,v] ep))
  (h:∀h' tk,(∀b o,s.heap.get? b=some o->h'.get? b=some o)->h'.DictOf (intKind prog w) s.heap.objs.size [(k,v)]->Q (.ref s.heap.objs.size) {s with heap:=h',toks:=tk}):
  wpAny (model prog w) A (call (.type "dict") [.ref l]) Q E s:=by
 refine callType_codes (Q₁:=fun obj s₁=>obj= .ref s.heap.objs.size/\s₁= {s with heap:=s.heap.push {cls:= .type "dict",data:= .dict #[]}}) PySem.F.kt_called_dict (PySem.F.kt_typeCall_dict_1 _) PySem.F.entry_dict_init (kt_code_dict_new _ ⟨rfl,rfl⟩) ?_;rintro obj s₁ ⟨rfl,rfl⟩;have nS:(s.heap.push {cls:= .type "dict",data:= .dict #[]}).DictOf (intKind prog w) s.heap.objs.size []:=Heap.DictOf.new s.heap;refine⟨nS.typeIs,PySem.F.args_dict_init_2 _ _, ?_⟩;unfold Builtin.«dict.__init__»;refine aN ?_;refine aN (wpAny_notOrdered_dict nS.typeIs ?_);refine cP ?_;show wpAny _ _ (Builtin.Dict.updateFrom "dict.__init__" s.heap.objs.size (.ref l) [] .none) _ _ _;have Hg:(s.heap.push {cls:= .type "dict",data:= .dict #[]}).get? l=some (fP [.ref tt] n):=gT _ hl;refine aN (wpAny_typeOf (T:="list") ⟨_,Hg,rfl⟩ ?_);rw [if_pos (bR rfl)];refine aN (yn (A:=A.in1.in1) hh Hg fun h2 t2 KX=> ?_);rw [if_pos (show(none:Option Value).isNone=true from rfl)];refine aN (wpAny_rule ?_);have AY:=KX _ _ Hg;refine aN (wpAny_pyIter_list (items:= #[.ref tt]) ⟨_,AY,rfl,_,rfl⟩ ?_);obtain⟨h3,IA⟩:∃h3,h3=h2.push {cls:= .type "list_iterator",data:= .fields #[.ref l,.int 0 0]}:=⟨_,rfl⟩;have DP:∀b o,(s.heap.push {cls:= .type "dict",data:= .dict #[]}).get? b=some o->h3.get? b=some o:=fun b o e=>by rw [IA];exact gT _ (KX _ _ e)
 have hd3:h3.DictOf (intKind prog w) s.heap.objs.size []:=by
  obtain⟨o,es,CV,ho,r⟩:=nS;exact⟨o,es,CV,DP _ _ ho,r⟩
 have hI3:h3.IsListIter h2.objs.size l 0:=by rw [IA];exact⟨_,iR _ rfl,rfl,rfl⟩
 have old:∀b o,s.heap.get? b=some o->b≠h2.objs.size:=fun b o e q=>by
  have:=Heap.lt_size (KX _ _ (gT {cls:= .type "dict",data:= .dict #[]} e));rw [q] at this;exact Nat.lt_irrefl _ this
 have dne:s.heap.objs.size≠h2.objs.size:=by
  obtain⟨o,es,CV,ho,r⟩:=nS;exact Nat.ne_of_lt (Heap.lt_size (KX _ _ ho))
 have SQ:∀b o,s.heap.get? b=some o->b≠s.heap.objs.size:=fun b o e q=>by rw [q,cA] at e;cases e
 refine cP ⟨plainId_quiet qH _, ?_⟩;refine KV (s:=⟨h2.push {cls:= .type "list_iterator",data:= .fields #[.ref l,.int 0 0]},_,_,_,_⟩) (l:=l) (tt:=tt) (n:=n) (ep:=ep) (k:=k) (u:=u) (v:=v) hh (IA▸hI3) (IA▸DP _ _ Hg) (IA▸DP _ _ (gT _ ht)) (IA▸hd3) (old _ _ hl) (old _ _ ht) dne (SQ _ _ hl) (Ne.symm dne) fun h' tk Qy hdd=> ?_;refine⟨rfl,h h' tk (fun b o e=> ?_) hdd⟩;exact Qy b o (old _ _ e) (SQ _ _ e) (IA▸DP _ _ (gT _ e))
end
noncomputable def pairOf:List MV->Option (Int×MV)
 | [k,x]=>k.int?.bind fun k=>some (k,x)
 |_=>none
noncomputable def JK:List MV->Option (List MV)
 | [x]=>x.BO
 |_=>none
noncomputable def FV(x:MV):MM MV:=fun m=>x.ij.bind fun i=>(m.ob i).gR.bind fun xs=>(JK xs).bind fun ys=>(pairOf ys).bind fun kx=>some (.obj m.n,m.new (.dict [kx]))
theorem KY:∀ {xs ys:List MV},JK xs=some ys->∃x,xs= [x]/\x.BO=some ys
 | [],_,e=>bZ e
 | [x],_,e=>⟨x,rfl,e⟩
 |_::_::_,_,e=>bZ e
theorem KZ:∀ {ys:List MV} {kx:Int×MV},pairOf ys=some kx->∃a b,ys= [a,b]/\(a.int?.bind fun k=>some (k,b))=some kx
 | [],_,e=>bZ e
 | [_],_,e=>bZ e
 | [a,b],_,e=>⟨a,b,rfl,e⟩
 |_::_::_::_,_,e=>bZ e
theorem IB:dX 0 (.type "dict") (so FV):=zU fun prog w A g s ρ m x v hA S r=> .opt fun i hi=> .opt fun xs q1=> .opt fun ys q2=> .opt fun kx q3=>by
 obtain⟨hi,rfl⟩:=r.ik hi;obtain⟨us,ep,ho,rs⟩:=S.lst hi (MO.jO q1);obtain⟨x,rfl,q2⟩:=KY q2;obtain⟨u,rfl,r⟩:=rs.one;obtain⟨vs,a,_,ha,Qp,rfl⟩:=r.tupI q2;obtain⟨y,z,rfl,q3⟩:=KZ q3;obtain⟨u1,u2,rfl,r1,r2⟩:=Qp.two;obtain⟨k,hk,q3⟩:=bj q3;obtain⟨_,rfl⟩:=r1.iF hk;obtain rfl:=d9 q3;refine aj (yo hA.2.2 ho ha fun h' tk hk hD=> ?_);obtain⟨o,hH,hd⟩:=Heap.dictOf_iff.mp hD;have hc:o.cls= .type "dict":=by
  obtain⟨_,_,hx,_⟩:=hd
  first|exact hx|exact hx.1|exact hx.2
 exact xw S hk hH (cA _) fun M=>⟨hc,⟨gA _,by rw [el];exact Nat.ne_of_gt S.now.size⟩,_,hd,.cons (r2.mono M) .nil⟩
end
section
variable {M:Model}{A:Around}{E:Value->Shared->Prop}{s:Shared}{env:Env}{h₀:ExceptHandler}{hs:List ExceptHandler}{Q:Flow->Shared->Prop}{body:List Stmt}{p pos:Pos}
theorem tN{body orelse:Sem Flow}
  (h:ay s (fun e s₁=>ay s₁ E A M (fun O s₂=>ay s₂ E A M (fun O s₃=>ay s₃ E A M Q (handleBy e env (h₀::hs))) (setFlight e none)) (noteFrame e env)) A M (fun f s₁=>match f with| .next=>ay s₁ E A M Q orelse|f=>Q f s₁) body):
  ay s E A M Q (tryStmt false body (h₀::hs) orelse [] env):=by
 refine af (uW (au h (fun f s₁ h₁=> ?_) fun e s₁ h₁=> ?_))
 ·cases f <;> first|exact h₁|exact ax h₁
 ·exact af (au h₁ (fun O O h₂=>af h₂) fun O O x=>x)
theorem rj{orelse:List Stmt}
  (h:ay s (fun e s₁=>ay s₁ E A M (fun O s₂=>ay s₂ E A M (fun O s₃=>ay s₃ E A M Q (handleBy e env (h₀::hs))) (setFlight e none)) (noteFrame e env)) A M (fun f s₁=>match f with| .next=>ay s₁ E A M Q (execs orelse env)|f=>Q f s₁) (execs body env)):
  ay s E A M Q (exec (.Try body (h₀::hs) orelse [] pos) env):=by
 rw [arm_exec_Try];exact af (bx (tN h))
theorem wM{n:Nat}{sg:Sg}{c:SM}(h:qX n sg body c):fY n sg (.Try body (h₀::hs) [] [] pos) c:=by
 intro prog w A g env fr s ρ m hA S F;refine .of fun f fE m' e=> ?_;refine rj (au ((h _ _ A _ _ _ _ _ _ hA S F).at e) (fun fl s1 q=> ?_) fun O O x=>x.elim);cases fl with
 |next=>exact aj (wpAny_execs_nil q)
 |_=>exact q
section
variable {n:Nat}{sg:Sg}
theorem sV(i:Nat){x:Str}(hk:sg.ks[i]? =some x:=by rfl):cD n sg (.Name x p) (Rd i):=dJ i hk
theorem sA{e:Expr}{es:List Expr}{c:av->MM MV}{cs:av->MM (List MV)}(h:cD n sg e c)(hs:nP n sg es cs)(he:∀env,starEach (e::es) env=(false,eval e env)::starEach es env:=by exact fun O=>rfl):nP n sg (e::es) (AC c cs):=eS h hs he
theorem sC{k:Nat}{id:Str}{args:List Expr}{f:Value}{ca:av->MM (List MV)}{cf:List MV->MM MV}(qx:id∈sg.gs)(hv:bF id (.fn f))(hk:cE f)(ha:nP n sg args ca)(hf:dX k f cf)(hp:Plain args:=by exact fun O=>rfl)(HT:k<=n:=by decide):
  cD n sg (.Call (.Name id p) args [] pos) (oG ca cf):=qA qx hv hk ha hp hf HT
end
end
section
noncomputable def gO: {c //aP 1 (.ref 82) c}:=⟨_,aI ["octets"] [] ["sum","enumerate"] [] [] (fun w=>rfl) rfl (fun w=>rfl) rfl rfl rfl bO (aF rfl (gE fun O=>rfl)) (by decide +kernel)
 (ar (aT (sC (.head _) Df (aG rfl) (sA (cZ (own:= ["place","octet"]) (cap:= []) (gs:= []) (idx:= []) (by decide +kernel) (Ac (mi 1 rfl) tX (sV 0) (fun O=>rfl)) (fv (.cons (i:=0) rfl (fun O=>rfl) (.cons (i:=1) rfl (fun O=>rfl) .nil))) c_ (ak (sV 1) (ak ag (sV 0) gD) Qb) (fun O O=>rfl)) ab) DD)))⟩
noncomputable def gP: {c //aP 1 (.ref 87) c}:=⟨_,aI ["number","size"] [] ["bytes","range"] [] [] (fun w=>rfl) rfl (fun w=>rfl) rfl rfl rfl bO (aF rfl (iG fun O O=>rfl)) (by decide +kernel)
 (ai (bN (f9 (gC ag (sV 0) (ak ag (sV 1) Dq) fR fS rfl)) (cw cq) bu) (ar (aT (sC (.head _) js (aG rfl) (sA (cZ (own:= ["place"]) (cap:= ["number"]) (gs:= []) (idx:= [0]) (by decide +kernel) (aY (sC (mi 1 rfl) kA (aG rfl) (sA (sV 1) ab) kF)) (bB 0 rfl (fun O=>rfl)) c_ (ak (ak (sV 1) (ak ag (sV 0) gD) Qc) ag Qd) (fun O O=>rfl)) ab) jv))))⟩
noncomputable def my: {c //aP 1 (.ref 92) c}:=⟨_,aI ["text"] ["points"] ["all","bytes"] [] [] (fun w=>rfl) rfl (fun w=>rfl) rfl rfl rfl bO (aF rfl (gE fun O=>rfl)) (by decide +kernel)
 (ai (qz 1 rfl rfl (by decide +kernel) (own:= ["sign"]) (cap:= []) (gs:= ["ord"]) (idx:= []) (by decide +kernel) (aY (sV 0)) (bB 0 rfl (fun O=>rfl)) c_ (sC (.head _) P5 (aG rfl) (sA (sV 0) ab) Qk) (fun O O=>rfl)) (ai (bN (f9 (gu (sC (.head _) Dg (aG rfl) (sA (cZ (own:= ["point"]) (cap:= []) (gs:= []) (idx:= []) (by decide +kernel) (aY (sV 1)) (bB 0 rfl (fun O=>rfl)) c_ (xy ag (sV 0) ag fR fS rfl) (fun O O=>rfl)) ab) DH) (fun O=>rfl))) (cw cq) bu) (ar (aT (sC (mi 1 rfl) js (aG rfl) (sA (sV 1) ab) jv)))))⟩
noncomputable def mC: {c //aP 1 (.ref 97) c}:=⟨_,aI ["octets"] [] ["all"] [] [] (fun w=>rfl) rfl (fun w=>rfl) rfl rfl rfl bO (aF rfl (gE fun O=>rfl)) (by decide +kernel)
 (ai (bN (f9 (gu (sC (.head _) Dg (aG rfl) (sA (cZ (own:= ["octet"]) (cap:= []) (gs:= []) (idx:= []) (by decide +kernel) (aY (sV 0)) (bB 0 rfl (fun O=>rfl)) c_ (xy ag (sV 0) ag fR fS rfl) (fun O O=>rfl)) ab) DH) (fun O=>rfl))) (cw cq) bu) (ar (aT (eA cH (sA (cZ (own:= ["octet"]) (cap:= []) (gs:= ["chr"]) (idx:= []) (by decide +kernel) (aY (sV 0)) (bB 0 rfl (fun O=>rfl)) c_ (sC (.head _) P6 (aG rfl) (sA (sV 0) ab) Ql) (fun O O=>rfl)) ab) (fun O=>rfl) It Nv (fun O=>⟨_,rfl⟩)))))⟩
noncomputable def pI: {c //aP 1 (.ref 111) c}:=⟨_,aI ["self"] [] ["bytearray"] [] [] (fun w=>rfl) rfl (fun w=>rfl) rfl rfl rfl bO (aF rfl (gE fun O=>rfl)) (by decide +kernel)
 (ar (bk (sC (.head _) tY (aG rfl) ab Nj) (sV 0) uv rfl))⟩
noncomputable def FW: {c //aP 2 (.ref 142) c}:=⟨_,mf MP pI.2⟩
noncomputable def bJ: {c //aP 2 (.ref 118) c}:=⟨_,aI ["self","number","size"] [] ["octets_of"] [] [] (fun w=>rfl) rfl (fun w=>rfl) rfl rfl rfl bO (aF rfl (qf fun O O O=>rfl)) (by decide +kernel)
 (ar (bp (eA (aq (sV 0) gM (fun O=>rfl)) (sA (sC (.head _) jR jS (sA (sV 1) (sA (sV 2) ab)) gP.2.fn) ab) (fun O=>rfl) FG FK (fun O=>⟨_,rfl⟩)) rfl))⟩
noncomputable def pJ: {c //aP 3 (.ref 132) c}:=⟨_,aI ["self","text"] ["octets"] ["text_octets","len"] [] [] (fun w=>rfl) rfl (fun w=>rfl) rfl rfl rfl bO (aF rfl (iG fun O O=>rfl)) (by decide +kernel)
 (ai (bh 2 rfl (sC (.head _) xV xW (sA (sV 1) ab) my.2.fn) rfl) (ai (bp (aL (sV 0) (sA (sC (mi 1 rfl) ey (aG rfl) (sA (sV 2) ab) ez) (sA ag ab)) (fun O=>rfl) (.cons b_ cc bJ.2.fn (by decide) .nil) (fun O=>⟨_,rfl⟩)) rfl) (ar (bp (eA (aq (sV 0) gM (fun O=>rfl)) (sA (sV 2) ab) (fun O=>rfl) FG FK (fun O=>⟨_,rfl⟩)) rfl))))⟩
noncomputable def nX: {c //aP 1 (.ref 139) c}:=⟨_,aI ["self"] [] ["bytes"] [] [] (fun w=>rfl) rfl (fun w=>rfl) rfl rfl rfl bO (aF rfl (gE fun O=>rfl)) (by decide +kernel)
 (ar (aT (sC (.head _) js (aG rfl) (sA (aq (sV 0) gM (fun O=>rfl)) ab) jv)))⟩
noncomputable def mD: {c //aP 1 (.ref 161) c}:=⟨_,aI ["self","octets","at"] [] [] [.int 0] _ (fun w=>rfl) rfl (fun w=>rfl) rfl rfl rfl U2 (sx (k:=2) rfl rfl (fun w=>rfl) (qf fun O O O=> .inr ⟨_,rfl,rfl⟩) (iG fun O O=>⟨_,rfl,rfl⟩)) (by decide +kernel)
 (ai (bk (sV 1) (sV 0) uv rfl) (ar (bk (sV 2) (sV 0) MS rfl)))⟩
noncomputable def Ae: {c //aP 2 (.ref 192) c}:=⟨_,mf H3 mD.2⟩
noncomputable def j8: {c //aP 1 (.ref 168) c}:=⟨_,aI ["self"] [] ["len"] [] [] (fun w=>rfl) rfl (fun w=>rfl) rfl rfl rfl bO (aF rfl (gE fun O=>rfl)) (by decide +kernel)
 (ar (aT (ak (sC (.head _) ey (aG rfl) (sA (aq (sV 0) gM (fun O=>rfl)) ab) ez) (aq (sV 0) Dk (fun O=>rfl)) oT)))⟩
noncomputable def gv: {c //aP 2 (.ref 175) c}:=⟨_,aI ["self","many"] ["found"] ["bytes"] [] [] (fun w=>rfl) rfl (fun w=>rfl) rfl rfl rfl bO (aF rfl (iG fun O O=>rfl)) (by decide +kernel)
 (ai (bN (aD (sV 1) (aL (sV 0) ab (fun O=>rfl) (.cons ye yf j8.2.fn (by decide) .nil) (fun O=>⟨_,rfl⟩)) kZ rfl) (cw cq) bu) (ai (bh 2 rfl (sC (.head _) js (aG rfl) (sA (eB (aq (sV 0) gM (fun O=>rfl)) (b9 (aq (sV 0) Dk (fun O=>rfl))) (b9 (ak (aq (sV 0) Dk (fun O=>rfl)) (sV 1) bY))) ab) jv) rfl) (ai (bk (ak (aq (sV 0) Dk (fun O=>rfl)) (sV 1) bY) (sV 0) MS rfl) (ar (aT (sV 2))))))⟩
noncomputable def bq: {c //aP 3 (.ref 182) c}:=⟨_,aI ["self","size"] [] ["number_of"] [] [] (fun w=>rfl) rfl (fun w=>rfl) rfl rfl rfl bO (aF rfl (iG fun O O=>rfl)) (by decide +kernel)
 (ar (aT (sC (.head _) jP jQ (sA (aL (sV 0) (sA (sV 1) ab) (fun O=>rfl) (.cons rf rg gv.2.fn (by decide) .nil) (fun O=>⟨_,rfl⟩)) ab) gO.2.fn)))⟩
noncomputable def mF: {c //aP 4 (.ref 189) c}:=⟨_,aI ["self"] [] ["octets_text"] [] [] (fun w=>rfl) rfl (fun w=>rfl) rfl rfl rfl bO (aF rfl (gE fun O=>rfl)) (by decide +kernel)
 (ar (aT (sC (.head _) xX xY (sA (aL (sV 0) (sA (aL (sV 0) (sA ag ab) (fun O=>rfl) (.cons bV bW bq.2.fn (by decide) .nil) (fun O=>⟨_,rfl⟩)) ab) (fun O=>rfl) (.cons rf rg gv.2.fn (by decide) .nil) (fun O=>⟨_,rfl⟩)) ab) mC.2.fn)))⟩
noncomputable def uG: {c //aP 1 (.ref 203) c}:=⟨_,aI ["octets","size"] [] ["len","bytes"] [] [] (fun w=>rfl) rfl (fun w=>rfl) rfl rfl rfl bO (aF rfl (iG fun O O=>rfl)) (by decide +kernel)
 (ai (bN (aD (sC (.head _) ey (aG rfl) (sA (sV 0) ab) ez) (sV 1) kZ rfl) (cw cq) bu) (ar (aT (ak (sC (mi 1 rfl) js (aG rfl) (sA (sV 0) ab) jv) (sC (mi 1 rfl) js (aG rfl) (sA (ak (sV 1) (sC (.head _) ey (aG rfl) (sA (sV 0) ab) ez) oT) ab) jv) bY))))⟩
noncomputable def jT: {c //aP 1 (.ref 219) c}:=⟨_,aI ["self","sort","guid","children","parity"] [] ["list"] [.tup [],.int 0] _ (fun w=>rfl) rfl (fun w=>rfl) rfl rfl rfl (fun w ρ n h X=> .cons (.tup (vs:= []) (e:=0) (X 211 _ rfl) .nil) (.cons (.int _ _) .nil)) (FQ (k:=3) rfl rfl (fun w=>rfl) (SO fun O O O O O=>⟨_,rfl,rfl⟩) (uc fun O O O O=>⟨_,rfl,rfl⟩) (qf fun O O O=>⟨_,rfl,rfl⟩)) (by decide +kernel)
 (ai (bk (sV 1) (sV 0) MT rfl) (ai (bk (sV 2) (sV 0) Fo rfl) (ai (bk (sC (.head _) zu (aG rfl) (sA (sV 3) ab) Fx) (sV 0) Dl rfl) (ar (bk (sV 4) (sV 0) H5 rfl)))))⟩
noncomputable def nY: {c //aP 2 (.ref 227) c}:=⟨_,mf MQ jT.2⟩
noncomputable def yp: {c //aP 1 (.ref 224) c}:=⟨_,aI ["self"] [] ["tuple"] [] [] (fun w=>rfl) rfl (fun w=>rfl) rfl rfl rfl bO (aF rfl (gE fun O=>rfl)) (by decide +kernel)
 (ar (aT (b7 (sA (aq (sV 0) kT (fun O=>rfl)) (sA (aq (sV 0) fG (fun O=>rfl)) (sA (aq (sV 0) lG (fun O=>rfl)) (sA (sC (.head _) ny (aG rfl) (sA (cZ (own:= ["child"]) (cap:= []) (gs:= []) (idx:= []) (by decide +kernel) (aY (aq (sV 0) eM (fun O=>rfl))) (bB 0 rfl (fun O=>rfl)) c_ (aL (sV 0) ab (fun O=>rfl) (.cons kW kX (oX (n:=0)) (by decide) .nil) (fun O=>⟨_,rfl⟩)) (fun O O=>rfl)) ab) th) ab)))))))⟩
noncomputable def mG: {c //aP 2 (.ref 224) c}:=⟨_,aI ["self"] [] ["tuple"] [] [] (fun w=>rfl) rfl (fun w=>rfl) rfl rfl rfl bO (aF rfl (gE fun O=>rfl)) (by decide +kernel)
 (ar (aT (b7 (sA (aq (sV 0) kT (fun O=>rfl)) (sA (aq (sV 0) fG (fun O=>rfl)) (sA (aq (sV 0) lG (fun O=>rfl)) (sA (sC (.head _) ny (aG rfl) (sA (cZ (own:= ["child"]) (cap:= []) (gs:= []) (idx:= []) (by decide +kernel) (aY (aq (sV 0) eM (fun O=>rfl))) (bB 0 rfl (fun O=>rfl)) c_ (aL (sV 0) ab (fun O=>rfl) (.cons kW kX yp.2.fn (by decide) .nil) (fun O=>⟨_,rfl⟩)) (fun O O=>rfl)) ab) th) ab)))))))⟩
noncomputable def mH: {c //aP 3 (.ref 224) c}:=⟨_,aI ["self"] [] ["tuple"] [] [] (fun w=>rfl) rfl (fun w=>rfl) rfl rfl rfl bO (aF rfl (gE fun O=>rfl)) (by decide +kernel)
 (ar (aT (b7 (sA (aq (sV 0) kT (fun O=>rfl)) (sA (aq (sV 0) fG (fun O=>rfl)) (sA (aq (sV 0) lG (fun O=>rfl)) (sA (sC (.head _) ny (aG rfl) (sA (cZ (own:= ["child"]) (cap:= []) (gs:= []) (idx:= []) (by decide +kernel) (aY (aq (sV 0) eM (fun O=>rfl))) (bB 0 rfl (fun O=>rfl)) c_ (aL (sV 0) ab (fun O=>rfl) (.cons kW kX mG.2.fn (by decide) .nil) (fun O=>⟨_,rfl⟩)) (fun O O=>rfl)) ab) th) ab)))))))⟩
noncomputable def rk: {c //aP 1 (.ref 246) c}:=⟨_,aI ["self","name","guid","tops","edition"] [] ["list"] [.int 1] _ (fun w=>rfl) rfl (fun w=>rfl) rfl rfl rfl U2 (sx (k:=4) rfl rfl (fun w=>rfl) (SO fun O O O O O=> .inr ⟨_,rfl,rfl⟩) (uc fun O O O O=>⟨_,rfl,rfl⟩)) (by decide +kernel)
 (ai (bk (sV 1) (sV 0) MU rfl) (ai (bk (sV 2) (sV 0) Fo rfl) (ai (bk (sC (.head _) zu (aG rfl) (sA (sV 3) ab) Fx) (sV 0) MW rfl) (ar (bk (sV 4) (sV 0) Fp rfl)))))⟩
noncomputable def uH: {c //aP 2 (.ref 254) c}:=⟨_,mf H4 rk.2⟩
noncomputable def f_: {c //aP 4 (.ref 251) c}:=⟨_,aI ["self"] [] ["tuple"] [] [] (fun w=>rfl) rfl (fun w=>rfl) rfl rfl rfl bO (aF rfl (gE fun O=>rfl)) (by decide +kernel)
 (ar (aT (b7 (sA (aq (sV 0) zv (fun O=>rfl)) (sA (aq (sV 0) fG (fun O=>rfl)) (sA (aq (sV 0) kB (fun O=>rfl)) (sA (sC (.head _) ny (aG rfl) (sA (cZ (own:= ["node"]) (cap:= []) (gs:= []) (idx:= []) (by decide +kernel) (aY (aq (sV 0) vq (fun O=>rfl))) (bB 0 rfl (fun O=>rfl)) c_ (aL (sV 0) ab (fun O=>rfl) (.cons kW kX mH.2.fn (by decide) .nil) (fun O=>⟨_,rfl⟩)) (fun O O=>rfl)) ab) th) ab)))))))⟩
noncomputable def gw: {c //aP 1 (.ref 265) c}:=⟨_,aI [] [] [] [] [] (fun w=>rfl) rfl (fun w=>rfl) rfl rfl rfl bO (aF rfl (len0 rfl)) (by decide +kernel)
 (ar (aT (cN (sA cH (sA cH (sA cH ab))))))⟩
noncomputable def jI: {c //aP 1 (.ref 272) c}:=⟨_,aI ["guids","parity"] ["found","guid"] ["NUMBERS"] [] [] (fun w=>rfl) rfl (fun w=>rfl) rfl rfl rfl bO (aF rfl (iG fun O O=>rfl)) (by decide +kernel)
 (ai (bh 2 rfl (ak ag (sV 1) bY) rfl) (ai (dM (aY (sV 0)) (bB 3 rfl (fun h=>nomatch h)) (ar (bh 2 rfl (ak (ak (ak (sV 2) ag gD) (sV 3) bY) (bA (.head _) xr) dW) rfl)) (fun O O=>rfl)) (ar (aT (sV 2)))))⟩
end
section
noncomputable def lY: {c //aP 3 (.ref 279) c}:=⟨_,aI ["plan"] [] ["isinstance","tuple","len","int","bool","NUMBERS","Node"] [] [] (fun w=>rfl) rfl (fun w=>rfl) rfl rfl rfl bO (aF rfl (gE fun O=>rfl)) (by decide +kernel)
 (ai (bN (bG (b4 (f9 (gu (sC (.head _) hU (aG rfl) (sA (sV 0) (sA (bA (mi 1 rfl) ny) ab)) ti) (fun O=>rfl))) (b4 (aD (sC (.tail _ (mi 1 rfl)) ey (aG rfl) (sA (sV 0) ab) ez) ag ji rfl) (b4 (aD (bK (sV 0) ag (fun O O=>rfl)) cH ji rfl) dY)))) (cw cq) bu) (ai (bN (bG (b4 (f9 (gu (sC (.head _) hU (aG rfl) (sA (bK (sV 0) ag (fun O O=>rfl)) (sA (bA (.tail _ (.tail _ (mi 1 rfl))) P8) ab)) ti) (fun O=>rfl))) (b4 (gu (sC (.head _) hU (aG rfl) (sA (bK (sV 0) ag (fun O O=>rfl)) (sA (bA (.tail _ (.tail _ (.tail _ (mi 1 rfl)))) Fm) ab)) ti) (fun O=>rfl)) (b4 (f9 (gC ag (bK (sV 0) ag (fun O O=>rfl)) (bA (.tail _ (.tail _ (.tail _ (.tail _ (mi 1 rfl))))) xr) fR fS rfl)) dY)))) (cw cq) bu) (ar (aT (sC (.tail _ (.tail _ (.tail _ (.tail _ (.tail _ (mi 1 rfl)))))) rY rZ (sA cH (sA (bK (sV 0) ag (fun O O=>rfl)) ab)) nY.2.fn)))))⟩
noncomputable def kG: {c //aP 4 (.ref 284) c}:=⟨_,aI ["plan"] ["children","parity"] ["isinstance","tuple","len","sorts","disk_node","list","bool","range","MOST_PARITY","max","MOST_CHILDREN","Node","number_of_disks"] [] [] (fun w=>rfl) rfl (fun w=>rfl) rfl rfl rfl bO (aF rfl (gE fun O=>rfl)) (by decide +kernel)
 (ai (bN (bG (b4 (f9 (gu (sC (.head _) hU (aG rfl) (sA (sV 0) (sA (bA (mi 1 rfl) ny) ab)) ti) (fun O=>rfl))) (b4 (aD (sC (.tail _ (mi 1 rfl)) ey (aG rfl) (sA (sV 0) ab) ez) ag fS rfl) (b4 (aD (bK (sV 0) ag (fun O O=>rfl)) (sC (.tail _ (.tail _ (mi 1 rfl))) iL iM ab gw.2.fn) tj rfl) dY)))) (cw cq) bu) (ai (bN (aD (bK (sV 0) ag (fun O O=>rfl)) cH eT rfl) (ar (aT (sC (.tail _ (.tail _ (.tail _ (mi 1 rfl)))) tV tW (sA (sV 0) ab) lY.2.fn))) bu) (ai (bN (bG (b4 (aD (sC (.tail _ (mi 1 rfl)) ey (aG rfl) (sA (sV 0) ab) ez) (kP (aD (bK (sV 0) ag (fun O O=>rfl)) cH eT rfl) ag ag) ji rfl) (b4 (f9 (gu (sC (.head _) hU (aG rfl) (sA (bK (sV 0) (B_ ag) (fun O O=>rfl)) (sA (bA (.tail _ (.tail _ (.tail _ (.tail _ (mi 1 rfl))))) zu) ab)) ti) (fun O=>rfl))) dY))) (cw cq) bu) (ai (lH (names:= ["children","parity"]) (b7 (sA (cZ (own:= ["child"]) (cap:= []) (gs:= ["disk_node"]) (idx:= []) (by decide +kernel) (aY (bK (sV 0) (B_ ag) (fun O O=>rfl))) (bB 0 rfl (fun O=>rfl)) c_ (sC (.head _) tV tW (sA (sV 0) ab) lY.2.fn) (fun O O=>rfl)) (sA (kP (aD (bK (sV 0) ag (fun O O=>rfl)) cH eT rfl) ag (bK (sV 0) ag (fun O O=>rfl))) ab))) (.cons (i:=2) rfl (.cons (i:=1) rfl .nil)) rfl rfl (fun O=>by kernel_rfl!)) (ai (bN (bG (bS (aD (bK (sV 0) ag (fun O O=>rfl)) cH eT rfl) (bS (bG (b4 (gu (sC (.head _) hU (aG rfl) (sA (sV 2) (sA (bA (.tail _ (.tail _ (.tail _ (.tail _ (.tail _ (mi 1 rfl)))))) Fm) ab)) ti) (fun O=>rfl)) (b4 (aD (sV 2) (sC (.tail _ (.tail _ (.tail _ (.tail _ (.tail _ (.tail _ (mi 1 rfl))))))) kA (aG rfl) (sA ag (sA (ak (bA (.tail _ (.tail _ (.tail _ (.tail _ (.tail _ (.tail _ (.tail _ (mi 1 rfl)))))))) j7) ag bY) ab)) kF) tj rfl) dY))) dB))) (cw cq) bu) (ai (bN (f9 (gC (sC (.tail _ (.tail _ (.tail _ (.tail _ (.tail _ (.tail _ (.tail _ (.tail _ (mi 1 rfl))))))))) Dh (aG rfl) (sA ag (sA (ak (sV 2) ag bY) ab)) DG) (sC (.tail _ (mi 1 rfl)) ey (aG rfl) (sA (sV 1) ab) ez) (bA (.tail _ (.tail _ (.tail _ (.tail _ (.tail _ (.tail _ (.tail _ (.tail _ (.tail _ (mi 1 rfl)))))))))) vp) fR fR rfl)) (cw cq) bu) (ar (aT (sC (.tail _ (.tail _ (.tail _ (.tail _ (.tail _ (.tail _ (.tail _ (.tail _ (.tail _ (.tail _ (mi 1 rfl))))))))))) rY rZ (sA (bK (sV 0) ag (fun O O=>rfl)) (sA (sC (.tail _ (.tail _ (.tail _ (.tail _ (.tail _ (.tail _ (.tail _ (.tail _ (.tail _ (.tail _ (.tail _ (mi 1 rfl)))))))))))) tG tH (sA (cZ (own:= ["child"]) (cap:= []) (gs:= []) (idx:= []) (by decide +kernel) (aY (sV 1)) (bB 0 rfl (fun O=>rfl)) c_ (aq (sV 0) fG (fun O=>rfl)) (fun O O=>rfl)) (sA (sV 2) ab)) jI.2.fn) (sA (sV 1) (sA (sV 2) ab)))) nY.2.fn)))))))))⟩
noncomputable def Bs: {c //aP 1 (.ref 291) c}:=⟨_,aI ["node"] ["found","child"] ["disks_of"] [] [] (fun w=>rfl) rfl (fun w=>rfl) rfl rfl rfl bO (aF rfl (gE fun O=>rfl)) (by decide +kernel)
 (ai (bN (aD (aq (sV 0) kT (fun O=>rfl)) cH eT rfl) (ar (aT (cN (sA (aq (sV 0) fG (fun O=>rfl)) ab)))) bu) (ai (bh 1 rfl (cN ab) rfl) (ai (dM (aY (aq (sV 0) eM (fun O=>rfl))) (bB 2 rfl (fun h=>nomatch h)) (ar (bp (eA (sV 1) (sA (sC (.head _) kR kS (sA (sV 2) ab) (oX (n:=0))) ab) (fun O=>rfl) (gk F.slot_list_extend F.type_list_extend) nW (fun O=>⟨_,rfl⟩)) rfl)) (fun O O=>rfl)) (ar (aT (sV 1))))))⟩
noncomputable def pK: {c //aP 2 (.ref 291) c}:=⟨_,aI ["node"] ["found","child"] ["disks_of"] [] [] (fun w=>rfl) rfl (fun w=>rfl) rfl rfl rfl bO (aF rfl (gE fun O=>rfl)) (by decide +kernel)
 (ai (bN (aD (aq (sV 0) kT (fun O=>rfl)) cH eT rfl) (ar (aT (cN (sA (aq (sV 0) fG (fun O=>rfl)) ab)))) bu) (ai (bh 1 rfl (cN ab) rfl) (ai (dM (aY (aq (sV 0) eM (fun O=>rfl))) (bB 2 rfl (fun h=>nomatch h)) (ar (bp (eA (sV 1) (sA (sC (.head _) kR kS (sA (sV 2) ab) Bs.2.fn) ab) (fun O=>rfl) (gk F.slot_list_extend F.type_list_extend) nW (fun O=>⟨_,rfl⟩)) rfl)) (fun O O=>rfl)) (ar (aT (sV 1))))))⟩
noncomputable def lZ: {c //aP 3 (.ref 291) c}:=⟨_,aI ["node"] ["found","child"] ["disks_of"] [] [] (fun w=>rfl) rfl (fun w=>rfl) rfl rfl rfl bO (aF rfl (gE fun O=>rfl)) (by decide +kernel)
 (ai (bN (aD (aq (sV 0) kT (fun O=>rfl)) cH eT rfl) (ar (aT (cN (sA (aq (sV 0) fG (fun O=>rfl)) ab)))) bu) (ai (bh 1 rfl (cN ab) rfl) (ai (dM (aY (aq (sV 0) eM (fun O=>rfl))) (bB 2 rfl (fun h=>nomatch h)) (ar (bp (eA (sV 1) (sA (sC (.head _) kR kS (sA (sV 2) ab) pK.2.fn) ab) (fun O=>rfl) (gk F.slot_list_extend F.type_list_extend) nW (fun O=>⟨_,rfl⟩)) rfl)) (fun O O=>rfl)) (ar (aT (sV 1))))))⟩
noncomputable def fQ: {c //aP 5 (.ref 297) c}:=⟨_,aI ["name","guid","plans","edition"] ["tops","guids","node"] ["disks_of","len","set","Config"] [.int 1] _ (fun w=>rfl) rfl (fun w=>rfl) rfl rfl rfl U2 (sx (k:=3) rfl rfl (fun w=>rfl) (uc fun O O O O=> .inr ⟨_,rfl,rfl⟩) (qf fun O O O=>⟨_,rfl,rfl⟩)) (by decide +kernel)
 (ai (qz 4 rfl rfl (by decide +kernel) (own:= ["plan"]) (cap:= []) (gs:= ["node_of"]) (idx:= []) (by decide +kernel) (aY (sV 2)) (bB 0 rfl (fun O=>rfl)) c_ (sC (.head _) Fj Fl (sA (sV 0) ab) kG.2.fn) (fun O O=>rfl)) (ai (bh 5 rfl (cN ab) rfl) (ai (dM (aY (sV 4)) (bB 6 rfl (fun h=>nomatch h)) (ar (bp (eA (sV 5) (sA (sC (.head _) kR kS (sA (sV 6) ab) lZ.2.fn) ab) (fun O=>rfl) (gk F.slot_list_extend F.type_list_extend) nW (fun O=>⟨_,rfl⟩)) rfl)) (fun O O=>rfl)) (ai (bN (bG (b4 (aD (sV 4) (cN ab) eT rfl) (b4 (aD (sC (mi 1 rfl) ey (aG rfl) (sA (sV 5) ab) ez) (sC (mi 1 rfl) ey (aG rfl) (sA (sC (.tail _ (mi 1 rfl)) P7 (aG rfl) (sA (sV 5) ab) Qq) ab) ez) ji rfl) dY))) (cw cq) bu) (ar (aT (sC (.tail _ (.tail _ (mi 1 rfl))) zp zq (sA (sV 0) (sA (sV 1) (sA (sV 4) (sA (sV 3) ab)))) uH.2.fn)))))))⟩
noncomputable def pM: {c //aP 4 (.ref 304) c}:=⟨_,aI ["config"] ["found","node"] ["disks_of"] [] [] (fun w=>rfl) rfl (fun w=>rfl) rfl rfl rfl bO (aF rfl (gE fun O=>rfl)) (by decide +kernel)
 (ai (bh 1 rfl (cN ab) rfl) (ai (dM (aY (aq (sV 0) vq (fun O=>rfl))) (bB 2 rfl (fun h=>nomatch h)) (ar (bp (eA (sV 1) (sA (sC (.head _) kR kS (sA (sV 2) ab) lZ.2.fn) ab) (fun O=>rfl) (gk F.slot_list_extend F.type_list_extend) nW (fun O=>⟨_,rfl⟩)) rfl)) (fun O O=>rfl)) (ar (aT (sV 1)))))⟩
noncomputable def Bt: {c //aP 3 (.ref 311) c}:=⟨_,aI ["sink","node"] ["child"] ["sorts","len","put_node"] [] [] (fun w=>rfl) rfl (fun w=>rfl) rfl rfl rfl bO (aF rfl (iG fun O O=>rfl)) (by decide +kernel)
 (ai (bp (aL (sV 0) (sA (eA (sC (.head _) iL iM ab gw.2.fn) (sA (aq (sV 1) kT (fun O=>rfl)) ab) (fun O=>rfl) (gk F.slot_list_index F.type_list_index) wJ (fun O=>⟨_,rfl⟩)) (sA ag ab)) (fun O=>rfl) (.cons b_ cc bJ.2.fn (by decide) .nil) (fun O=>⟨_,rfl⟩)) rfl) (ai (bp (aL (sV 0) (sA (aq (sV 1) fG (fun O=>rfl)) (sA ag ab)) (fun O=>rfl) (.cons b_ cc bJ.2.fn (by decide) .nil) (fun O=>⟨_,rfl⟩)) rfl) (ai (bp (aL (sV 0) (sA (aq (sV 1) lG (fun O=>rfl)) (sA ag ab)) (fun O=>rfl) (.cons b_ cc bJ.2.fn (by decide) .nil) (fun O=>⟨_,rfl⟩)) rfl) (ai (bp (aL (sV 0) (sA (sC (mi 1 rfl) ey (aG rfl) (sA (aq (sV 1) eM (fun O=>rfl)) ab) ez) (sA ag ab)) (fun O=>rfl) (.cons b_ cc bJ.2.fn (by decide) .nil) (fun O=>⟨_,rfl⟩)) rfl) (ar (dM (aY (aq (sV 1) eM (fun O=>rfl))) (bB 2 rfl (fun h=>nomatch h)) (ar (bp (sC (.tail _ (mi 1 rfl)) ng nh (sA (sV 0) (sA (sV 2) ab)) (oX (n:=0))) rfl)) (fun O O=>rfl)))))))⟩
noncomputable def pN: {c //aP 4 (.ref 311) c}:=⟨_,aI ["sink","node"] ["child"] ["sorts","len","put_node"] [] [] (fun w=>rfl) rfl (fun w=>rfl) rfl rfl rfl bO (aF rfl (iG fun O O=>rfl)) (by decide +kernel)
 (ai (bp (aL (sV 0) (sA (eA (sC (.head _) iL iM ab gw.2.fn) (sA (aq (sV 1) kT (fun O=>rfl)) ab) (fun O=>rfl) (gk F.slot_list_index F.type_list_index) wJ (fun O=>⟨_,rfl⟩)) (sA ag ab)) (fun O=>rfl) (.cons b_ cc bJ.2.fn (by decide) .nil) (fun O=>⟨_,rfl⟩)) rfl) (ai (bp (aL (sV 0) (sA (aq (sV 1) fG (fun O=>rfl)) (sA ag ab)) (fun O=>rfl) (.cons b_ cc bJ.2.fn (by decide) .nil) (fun O=>⟨_,rfl⟩)) rfl) (ai (bp (aL (sV 0) (sA (aq (sV 1) lG (fun O=>rfl)) (sA ag ab)) (fun O=>rfl) (.cons b_ cc bJ.2.fn (by decide) .nil) (fun O=>⟨_,rfl⟩)) rfl) (ai (bp (aL (sV 0) (sA (sC (mi 1 rfl) ey (aG rfl) (sA (aq (sV 1) eM (fun O=>rfl)) ab) ez) (sA ag ab)) (fun O=>rfl) (.cons b_ cc bJ.2.fn (by decide) .nil) (fun O=>⟨_,rfl⟩)) rfl) (ar (dM (aY (aq (sV 1) eM (fun O=>rfl))) (bB 2 rfl (fun h=>nomatch h)) (ar (bp (sC (.tail _ (mi 1 rfl)) ng nh (sA (sV 0) (sA (sV 2) ab)) Bt.2.fn) rfl)) (fun O O=>rfl)))))))⟩
noncomputable def pO: {c //aP 5 (.ref 311) c}:=⟨_,aI ["sink","node"] ["child"] ["sorts","len","put_node"] [] [] (fun w=>rfl) rfl (fun w=>rfl) rfl rfl rfl bO (aF rfl (iG fun O O=>rfl)) (by decide +kernel)
 (ai (bp (aL (sV 0) (sA (eA (sC (.head _) iL iM ab gw.2.fn) (sA (aq (sV 1) kT (fun O=>rfl)) ab) (fun O=>rfl) (gk F.slot_list_index F.type_list_index) wJ (fun O=>⟨_,rfl⟩)) (sA ag ab)) (fun O=>rfl) (.cons b_ cc bJ.2.fn (by decide) .nil) (fun O=>⟨_,rfl⟩)) rfl) (ai (bp (aL (sV 0) (sA (aq (sV 1) fG (fun O=>rfl)) (sA ag ab)) (fun O=>rfl) (.cons b_ cc bJ.2.fn (by decide) .nil) (fun O=>⟨_,rfl⟩)) rfl) (ai (bp (aL (sV 0) (sA (aq (sV 1) lG (fun O=>rfl)) (sA ag ab)) (fun O=>rfl) (.cons b_ cc bJ.2.fn (by decide) .nil) (fun O=>⟨_,rfl⟩)) rfl) (ai (bp (aL (sV 0) (sA (sC (mi 1 rfl) ey (aG rfl) (sA (aq (sV 1) eM (fun O=>rfl)) ab) ez) (sA ag ab)) (fun O=>rfl) (.cons b_ cc bJ.2.fn (by decide) .nil) (fun O=>⟨_,rfl⟩)) rfl) (ar (dM (aY (aq (sV 1) eM (fun O=>rfl))) (bB 2 rfl (fun h=>nomatch h)) (ar (bp (sC (.tail _ (mi 1 rfl)) ng nh (sA (sV 0) (sA (sV 2) ab)) pN.2.fn) rfl)) (fun O O=>rfl)))))))⟩
noncomputable def iX: {c //aP 6 (.ref 318) c}:=⟨_,aI ["config"] ["sink","node"] ["Sink","MAGIC","VERSION","len","put_node"] [] [] (fun w=>rfl) rfl (fun w=>rfl) rfl rfl rfl bO (aF rfl (gE fun O=>rfl)) (by decide +kernel)
 (ai (bh 1 rfl (sC (.head _) MF MG ab FW.2.fn) rfl) (ai (bp (aL (sV 1) (sA (bA (mi 1 rfl) BW) (sA ag ab)) (fun O=>rfl) (.cons b_ cc bJ.2.fn (by decide) .nil) (fun O=>⟨_,rfl⟩)) rfl) (ai (bp (aL (sV 1) (sA (bA (.tail _ (mi 1 rfl)) xq) (sA ag ab)) (fun O=>rfl) (.cons b_ cc bJ.2.fn (by decide) .nil) (fun O=>⟨_,rfl⟩)) rfl) (ai (bp (aL (sV 1) (sA (aq (sV 0) zv (fun O=>rfl)) ab) (fun O=>rfl) (.cons A_ Ba pJ.2.fn (by decide) .nil) (fun O=>⟨_,rfl⟩)) rfl) (ai (bp (aL (sV 1) (sA (aq (sV 0) fG (fun O=>rfl)) (sA ag ab)) (fun O=>rfl) (.cons b_ cc bJ.2.fn (by decide) .nil) (fun O=>⟨_,rfl⟩)) rfl) (ai (bp (aL (sV 1) (sA (aq (sV 0) kB (fun O=>rfl)) (sA ag ab)) (fun O=>rfl) (.cons b_ cc bJ.2.fn (by decide) .nil) (fun O=>⟨_,rfl⟩)) rfl) (ai (bp (aL (sV 1) (sA (sC (.tail _ (.tail _ (mi 1 rfl))) ey (aG rfl) (sA (aq (sV 0) vq (fun O=>rfl)) ab) ez) (sA ag ab)) (fun O=>rfl) (.cons b_ cc bJ.2.fn (by decide) .nil) (fun O=>⟨_,rfl⟩)) rfl) (ai (dM (aY (aq (sV 0) vq (fun O=>rfl))) (bB 2 rfl (fun h=>nomatch h)) (ar (bp (sC (.tail _ (.tail _ (.tail _ (mi 1 rfl)))) ng nh (sA (sV 1) (sA (sV 2) ab)) pO.2.fn) rfl)) (fun O O=>rfl)) (ar (aT (aL (sV 1) ab (fun O=>rfl) (.cons zz zA nX.2.fn (by decide) .nil) (fun O=>⟨_,rfl⟩))))))))))))⟩
noncomputable def Af: {c //aP 4 (.ref 323) c}:=⟨_,aI ["cursor","depth"] ["number","guid","parity","many","sort"] ["len","sorts","min","MOST_PARITY","Node","range"] [] [] (fun w=>rfl) rfl (fun w=>rfl) rfl rfl rfl bO (aF rfl (iG fun O O=>rfl)) (by decide +kernel)
 (ai (nI (b7 (sA (aL (sV 0) (sA ag ab) (fun O=>rfl) (.cons bV bW bq.2.fn (by decide) .nil) (fun O=>⟨_,rfl⟩)) (sA (aL (sV 0) (sA ag ab) (fun O=>rfl) (.cons bV bW bq.2.fn (by decide) .nil) (fun O=>⟨_,rfl⟩)) (sA (aL (sV 0) (sA ag ab) (fun O=>rfl) (.cons bV bW bq.2.fn (by decide) .nil) (fun O=>⟨_,rfl⟩)) (sA (aL (sV 0) (sA ag ab) (fun O=>rfl) (.cons bV bW bq.2.fn (by decide) .nil) (fun O=>⟨_,rfl⟩)) ab))))) (.cons (i:=2) rfl (fun h=>nomatch h) (.cons (i:=3) rfl (fun h=>nomatch h) (.cons (i:=4) rfl (fun h=>nomatch h) (.cons (i:=5) rfl (fun h=>nomatch h) .nil)))) rfl (fun O=>by kernel_rfl!)) (ai (bN (bG (b4 (aD (sV 2) (sC (.head _) ey (aG rfl) (sA (sC (mi 1 rfl) iL iM ab gw.2.fn) ab) ez) Ia rfl) (b4 (bG (bS (aD (sV 2) ag kZ rfl) (bS (aD (sV 1) ag kZ rfl) dB))) dY))) (cw cq) bu) (ai (bh 6 rfl (bK (sC (mi 1 rfl) iL iM ab gw.2.fn) (sV 2) (fun O O=>rfl)) rfl) (ai (bN (bG (b4 (bG (bS (aD (sV 6) cH eT rfl) (bS (aD (b7 (sA (sV 5) (sA (sV 4) ab))) (b7 (sA ag (sA ag ab))) ji rfl) dB))) (b4 (bG (bS (aD (sV 6) cH eT rfl) (bS (bG (b4 (aD (sV 5) ag fS rfl) (b4 (aD (sV 4) ag ji rfl) dY))) dB))) dY))) (cw cq) bu) (ai (bN (bG (bS (aD (sV 6) cH eT rfl) (bS (f9 (gC ag (sV 4) (sC (.tail _ (mi 1 rfl)) Di (aG rfl) (sA (bA (.tail _ (.tail _ (mi 1 rfl))) j7) (sA (ak (sV 5) ag oT) ab)) DB) fR fR rfl)) dB))) (cw cq) bu) (ar (aT (sC (.tail _ (.tail _ (.tail _ (mi 1 rfl)))) rY rZ (sA (sV 6) (sA (sV 3) (sA (cZ (own:= ["turn"]) (cap:= ["cursor","depth"]) (gs:= ["read_node"]) (idx:= [0,1]) (by decide +kernel) (aY (sC (.tail _ (.tail _ (.tail _ (.tail _ (mi 1 rfl))))) kA (aG rfl) (sA (sV 5) ab) kF)) (bB 0 rfl (fun O=>rfl)) c_ (sC (.head _) lS lT (sA (sV 1) (sA (ak (sV 2) ag bY) ab)) (oX (n:=0))) (fun O O=>rfl)) (sA (sV 4) ab)))) nY.2.fn))))))))⟩
noncomputable def nZ: {c //aP 5 (.ref 323) c}:=⟨_,aI ["cursor","depth"] ["number","guid","parity","many","sort"] ["len","sorts","min","MOST_PARITY","Node","range"] [] [] (fun w=>rfl) rfl (fun w=>rfl) rfl rfl rfl bO (aF rfl (iG fun O O=>rfl)) (by decide +kernel)
 (ai (nI (b7 (sA (aL (sV 0) (sA ag ab) (fun O=>rfl) (.cons bV bW bq.2.fn (by decide) .nil) (fun O=>⟨_,rfl⟩)) (sA (aL (sV 0) (sA ag ab) (fun O=>rfl) (.cons bV bW bq.2.fn (by decide) .nil) (fun O=>⟨_,rfl⟩)) (sA (aL (sV 0) (sA ag ab) (fun O=>rfl) (.cons bV bW bq.2.fn (by decide) .nil) (fun O=>⟨_,rfl⟩)) (sA (aL (sV 0) (sA ag ab) (fun O=>rfl) (.cons bV bW bq.2.fn (by decide) .nil) (fun O=>⟨_,rfl⟩)) ab))))) (.cons (i:=2) rfl (fun h=>nomatch h) (.cons (i:=3) rfl (fun h=>nomatch h) (.cons (i:=4) rfl (fun h=>nomatch h) (.cons (i:=5) rfl (fun h=>nomatch h) .nil)))) rfl (fun O=>by kernel_rfl!)) (ai (bN (bG (b4 (aD (sV 2) (sC (.head _) ey (aG rfl) (sA (sC (mi 1 rfl) iL iM ab gw.2.fn) ab) ez) Ia rfl) (b4 (bG (bS (aD (sV 2) ag kZ rfl) (bS (aD (sV 1) ag kZ rfl) dB))) dY))) (cw cq) bu) (ai (bh 6 rfl (bK (sC (mi 1 rfl) iL iM ab gw.2.fn) (sV 2) (fun O O=>rfl)) rfl) (ai (bN (bG (b4 (bG (bS (aD (sV 6) cH eT rfl) (bS (aD (b7 (sA (sV 5) (sA (sV 4) ab))) (b7 (sA ag (sA ag ab))) ji rfl) dB))) (b4 (bG (bS (aD (sV 6) cH eT rfl) (bS (bG (b4 (aD (sV 5) ag fS rfl) (b4 (aD (sV 4) ag ji rfl) dY))) dB))) dY))) (cw cq) bu) (ai (bN (bG (bS (aD (sV 6) cH eT rfl) (bS (f9 (gC ag (sV 4) (sC (.tail _ (mi 1 rfl)) Di (aG rfl) (sA (bA (.tail _ (.tail _ (mi 1 rfl))) j7) (sA (ak (sV 5) ag oT) ab)) DB) fR fR rfl)) dB))) (cw cq) bu) (ar (aT (sC (.tail _ (.tail _ (.tail _ (mi 1 rfl)))) rY rZ (sA (sV 6) (sA (sV 3) (sA (cZ (own:= ["turn"]) (cap:= ["cursor","depth"]) (gs:= ["read_node"]) (idx:= [0,1]) (by decide +kernel) (aY (sC (.tail _ (.tail _ (.tail _ (.tail _ (mi 1 rfl))))) kA (aG rfl) (sA (sV 5) ab) kF)) (bB 0 rfl (fun O=>rfl)) c_ (sC (.head _) lS lT (sA (sV 1) (sA (ak (sV 2) ag bY) ab)) Af.2.fn) (fun O O=>rfl)) (sA (sV 4) ab)))) nY.2.fn))))))))⟩
noncomputable def n_: {c //aP 6 (.ref 323) c}:=⟨_,aI ["cursor","depth"] ["number","guid","parity","many","sort"] ["len","sorts","min","MOST_PARITY","Node","range"] [] [] (fun w=>rfl) rfl (fun w=>rfl) rfl rfl rfl bO (aF rfl (iG fun O O=>rfl)) (by decide +kernel)
 (ai (nI (b7 (sA (aL (sV 0) (sA ag ab) (fun O=>rfl) (.cons bV bW bq.2.fn (by decide) .nil) (fun O=>⟨_,rfl⟩)) (sA (aL (sV 0) (sA ag ab) (fun O=>rfl) (.cons bV bW bq.2.fn (by decide) .nil) (fun O=>⟨_,rfl⟩)) (sA (aL (sV 0) (sA ag ab) (fun O=>rfl) (.cons bV bW bq.2.fn (by decide) .nil) (fun O=>⟨_,rfl⟩)) (sA (aL (sV 0) (sA ag ab) (fun O=>rfl) (.cons bV bW bq.2.fn (by decide) .nil) (fun O=>⟨_,rfl⟩)) ab))))) (.cons (i:=2) rfl (fun h=>nomatch h) (.cons (i:=3) rfl (fun h=>nomatch h) (.cons (i:=4) rfl (fun h=>nomatch h) (.cons (i:=5) rfl (fun h=>nomatch h) .nil)))) rfl (fun O=>by kernel_rfl!)) (ai (bN (bG (b4 (aD (sV 2) (sC (.head _) ey (aG rfl) (sA (sC (mi 1 rfl) iL iM ab gw.2.fn) ab) ez) Ia rfl) (b4 (bG (bS (aD (sV 2) ag kZ rfl) (bS (aD (sV 1) ag kZ rfl) dB))) dY))) (cw cq) bu) (ai (bh 6 rfl (bK (sC (mi 1 rfl) iL iM ab gw.2.fn) (sV 2) (fun O O=>rfl)) rfl) (ai (bN (bG (b4 (bG (bS (aD (sV 6) cH eT rfl) (bS (aD (b7 (sA (sV 5) (sA (sV 4) ab))) (b7 (sA ag (sA ag ab))) ji rfl) dB))) (b4 (bG (bS (aD (sV 6) cH eT rfl) (bS (bG (b4 (aD (sV 5) ag fS rfl) (b4 (aD (sV 4) ag ji rfl) dY))) dB))) dY))) (cw cq) bu) (ai (bN (bG (bS (aD (sV 6) cH eT rfl) (bS (f9 (gC ag (sV 4) (sC (.tail _ (mi 1 rfl)) Di (aG rfl) (sA (bA (.tail _ (.tail _ (mi 1 rfl))) j7) (sA (ak (sV 5) ag oT) ab)) DB) fR fR rfl)) dB))) (cw cq) bu) (ar (aT (sC (.tail _ (.tail _ (.tail _ (mi 1 rfl)))) rY rZ (sA (sV 6) (sA (sV 3) (sA (cZ (own:= ["turn"]) (cap:= ["cursor","depth"]) (gs:= ["read_node"]) (idx:= [0,1]) (by decide +kernel) (aY (sC (.tail _ (.tail _ (.tail _ (.tail _ (mi 1 rfl))))) kA (aG rfl) (sA (sV 5) ab) kF)) (bB 0 rfl (fun O=>rfl)) c_ (sC (.head _) lS lT (sA (sV 1) (sA (ak (sV 2) ag bY) ab)) nZ.2.fn) (fun O O=>rfl)) (sA (sV 4) ab)))) nY.2.fn))))))))⟩
noncomputable def jU: {c //aP 7 (.ref 328) c}:=⟨_,aI ["octets"] ["cursor","name","guid","edition","many"] ["Cursor","MAGIC","VERSION","Config","range"] [] [] (fun w=>rfl) rfl (fun w=>rfl) rfl rfl rfl bO (aF rfl (gE fun O=>rfl)) (by decide +kernel)
 (ai (bh 1 rfl (sC (.head _) HW HX (sA (sV 0) ab) Ae.2.fn) rfl) (ai (bN (bG (b4 (aD (aL (sV 1) (sA ag ab) (fun O=>rfl) (.cons bV bW bq.2.fn (by decide) .nil) (fun O=>⟨_,rfl⟩)) (bA (mi 1 rfl) BW) ji rfl) (b4 (aD (aL (sV 1) (sA ag ab) (fun O=>rfl) (.cons bV bW bq.2.fn (by decide) .nil) (fun O=>⟨_,rfl⟩)) (bA (.tail _ (mi 1 rfl)) xq) ji rfl) dY))) (cw cq) bu) (ai (nI (b7 (sA (aL (sV 1) ab (fun O=>rfl) (.cons yg yh mF.2.fn (by decide) .nil) (fun O=>⟨_,rfl⟩)) (sA (aL (sV 1) (sA ag ab) (fun O=>rfl) (.cons bV bW bq.2.fn (by decide) .nil) (fun O=>⟨_,rfl⟩)) (sA (aL (sV 1) (sA ag ab) (fun O=>rfl) (.cons bV bW bq.2.fn (by decide) .nil) (fun O=>⟨_,rfl⟩)) (sA (aL (sV 1) (sA ag ab) (fun O=>rfl) (.cons bV bW bq.2.fn (by decide) .nil) (fun O=>⟨_,rfl⟩)) ab))))) (.cons (i:=2) rfl (fun h=>nomatch h) (.cons (i:=3) rfl (fun h=>nomatch h) (.cons (i:=4) rfl (fun h=>nomatch h) (.cons (i:=5) rfl (fun h=>nomatch h) .nil)))) rfl (fun O=>by kernel_rfl!)) (ai (bN (aD (sV 5) ag eT rfl) (cw cq) bu) (ar (aT (sC (.tail _ (.tail _ (mi 1 rfl))) zp zq (sA (sV 2) (sA (sV 3) (sA (cZ (own:= ["turn"]) (cap:= ["cursor"]) (gs:= ["read_node"]) (idx:= [1]) (by decide +kernel) (aY (sC (.tail _ (.tail _ (.tail _ (mi 1 rfl)))) kA (aG rfl) (sA (sV 5) ab) kF)) (bB 0 rfl (fun O=>rfl)) c_ (sC (.head _) lS lT (sA (sV 1) (sA ag ab)) n_.2.fn) (fun O O=>rfl)) (sA (sV 4) ab)))) uH.2.fn)))))))⟩
end
section
noncomputable def K0:List MV->Option (List MV)
 | [x0,a,b,c,d]=>some [x0,a,.int 32,.int 32,.int 4,.int 4,b,.int 2,.int 128,c,d,.int 128]
 |_=>none
set_option maxHeartbeats 4000000 in
noncomputable def Ag: {c //nJ 1 (.ref 343) 1 ["sector","ring","uber","config"] c}:=⟨_,KS ["self","sector","slab","record","fan","dnodes","ring","defer","most_record","uber","config","zap"] [] [] 1 ["sector","ring","uber","config"] K0 (fun w=>rfl) rfl (fun w=>rfl) rfl rfl rfl (fun w s ρ n xs vs ys X r e=>by
  cases r with
  |nil=>exact bZ e
  |cons r0 r=>cases r with
   |nil=>exact bZ e
   |cons r1 r=>cases r with
    |nil=>exact bZ e
    |cons r2 r=>cases r with
     |nil=>exact bZ e
     |cons r3 r=>cases r with
      |nil=>exact bZ e
      |cons r4 r=>cases r with
      |cons=>exact bZ e
      |nil=>
       cases e;exact⟨[_,_,.int 32 _,.int 32 _,.int 4 _,.int 4 _,_,.int 2 _,.int 128 _,_,_,.int 128 _],.cons r0 (.cons r1 (.cons (.int _ _) (.cons (.int _ _) (.cons (.int _ _) (.cons (.int _ _) (.cons r2 (.cons (.int _ _) (.cons (.int _ _) (.cons r3 (.cons r4 (.cons (.int _ _) .nil))))))))))),rfl,BindsTo.of_defaults (T:=336) rfl (X _ _ rfl) rfl rfl rfl⟩) (by decide +kernel)
 (ai (bk (sV 1) (sV 0) zw rfl) (ai (bk (sV 2) (sV 0) MX rfl) (ai (bk (sV 3) (sV 0) H6 rfl) (ai (bk (sV 4) (sV 0) P_ rfl) (ai (bk (sV 5) (sV 0) H7 rfl) (ai (bk (sV 6) (sV 0) MZ rfl) (ai (bk (sV 7) (sV 0) Ky rfl) (ai (bk (sV 8) (sV 0) yd rfl) (ai (bk (sV 9) (sV 0) M1 rfl) (ai (bk (sV 10) (sV 0) H9 rfl) (ar (bk (sV 11) (sV 0) Qa rfl))))))))))))⟩
noncomputable def Cb: {c //nJ 2 (.ref 346) 0 ["sector","ring","uber","config"] c}:=⟨_,DN Kx Ag.2⟩
end
section
noncomputable def oY: {c //aP 1 (.ref 357) c}:=⟨_,aI ["size","part"] [] [] [] [] (fun w=>rfl) rfl (fun w=>rfl) rfl rfl rfl bO (aF rfl (iG fun O O=>rfl)) (by decide +kernel)
 (ar (aT (ak (ak (ak (sV 0) (sV 1) bY) ag oT) (sV 1) fc)))⟩
noncomputable def lI: {c //aP 2 (.ref 364) c}:=⟨_,aI ["shape"] [] ["many_of"] [] [] (fun w=>rfl) rfl (fun w=>rfl) rfl rfl rfl bO (aF rfl (gE fun O=>rfl)) (by decide +kernel)
 (ar (aT (sC (.head _) xm xp (sA (aq (sV 0) M0 (fun O=>rfl)) (sA (aq (sV 0) dR (fun O=>rfl)) ab)) oY.2.fn)))⟩
noncomputable def gm: {c //aP 2 (.ref 371) c}:=⟨_,aI ["shape"] [] ["many_of"] [] [] (fun w=>rfl) rfl (fun w=>rfl) rfl rfl rfl bO (aF rfl (gE fun O=>rfl)) (by decide +kernel)
 (ar (aT (sC (.head _) xm xp (sA (aq (sV 0) H8 (fun O=>rfl)) (sA (aq (sV 0) dR (fun O=>rfl)) ab)) oY.2.fn)))⟩
noncomputable def k_: {c //aP 3 (.ref 378) c}:=⟨_,aI ["shape"] [] ["config_sectors","slot_sectors"] [] [] (fun w=>rfl) rfl (fun w=>rfl) rfl rfl rfl bO (aF rfl (gE fun O=>rfl)) (by decide +kernel)
 (ar (aT (ak (sC (.head _) kh ki (sA (sV 0) ab) gm.2.fn) (ak (aq (sV 0) MY (fun O=>rfl)) (sC (mi 1 rfl) wm wo (sA (sV 0) ab) lI.2.fn) gD) bY)))⟩
noncomputable def ud: {c //aP 1 (.ref 446) c}:=⟨_,aI ["self","sectors","shape"] [] ["bytearray"] [] [] (fun w=>rfl) rfl (fun w=>rfl) rfl rfl rfl bO (aF rfl (qf fun O O O=>rfl)) (by decide +kernel)
 (ai (bk (aq (sV 2) dR (fun O=>rfl)) (sV 0) zw rfl) (ai (bk (sC (.head _) tY (aG rfl) (sA (ak (sV 1) (aq (sV 2) dR (fun O=>rfl)) gD) ab) Nj) (sV 0) uv rfl) (ai (bk (cN ab) (sV 0) xt rfl) (ai (bk jf (sV 0) zx rfl) (ai (bk ag (sV 0) BY rfl) (ar (bk ag (sV 0) zy rfl)))))))⟩
noncomputable def FX: {c //aP 2 (.ref 526) c}:=⟨_,mf MR ud.2⟩
noncomputable def jx: {c //aP 1 (.ref 453) c}:=⟨_,aI ["self"] [] ["len"] [] [] (fun w=>rfl) rfl (fun w=>rfl) rfl rfl rfl bO (aF rfl (gE fun O=>rfl)) (by decide +kernel)
 (ar (aT (ak (sC (.head _) ey (aG rfl) (sA (aq (sV 0) gM (fun O=>rfl)) ab) ez) (aq (sV 0) dR (fun O=>rfl)) fc)))⟩
noncomputable def jV: {c //aP 2 (.ref 460) c}:=⟨_,aI ["self","sector","many"] [] [] [] [] (fun w=>rfl) rfl (fun w=>rfl) rfl rfl rfl bO (aF rfl (qf fun O O O=>rfl)) (by decide +kernel)
 (ar (bN (bG (b4 (aD (sV 1) ag fS rfl) (b4 (aD (sV 2) ag fS rfl) (b4 (aD (ak (sV 1) (sV 2) bY) (aL (sV 0) ab (fun O=>rfl) (.cons qc qd jx.2.fn (by decide) .nil) (fun O=>⟨_,rfl⟩)) kZ rfl) dY)))) (cw cq) bu))⟩
noncomputable def iO: {c //aP 3 (.ref 467) c}:=⟨_,aI ["self","sector","many"] ["found","place","octets","at"] ["bytes"] [] [] (fun w=>rfl) rfl (fun w=>rfl) rfl rfl rfl bO (aF rfl (qf fun O O O=>rfl)) (by decide +kernel)
 (ai (bp (aL (sV 0) (sA (sV 1) (sA (sV 2) ab)) (fun O=>rfl) (.cons pF pG jV.2.fn (by decide) .nil) (fun O=>⟨_,rfl⟩)) rfl) (ai (bN (gu (aq (sV 0) qD (fun O=>rfl)) (fun O=>rfl)) (ar (aT d_)) bu) (ai (bk (ak (aq (sV 0) Kz (fun O=>rfl)) (sV 2) bY) (sV 0) BY rfl) (ai (bh 3 rfl (eB (aq (sV 0) gM (fun O=>rfl)) (b9 (ak (sV 1) (aq (sV 0) dR (fun O=>rfl)) gD)) (b9 (ak (ak (sV 1) (sV 2) bY) (aq (sV 0) dR (fun O=>rfl)) gD))) rfl) (ai (dM (aY (aq (sV 0) sa (fun O=>rfl))) (fv (.cons (i:=4) rfl (fun h=>nomatch h) (.cons (i:=5) rfl (fun h=>nomatch h) .nil))) (ar (bN (gC (sV 1) (sV 4) (ak (sV 1) (sV 2) bY) fR fS rfl) (ai (bh 6 rfl (ak (ak (sV 4) (sV 1) oT) (aq (sV 0) dR (fun O=>rfl)) gD) rfl) (ar (zT (sV 5) (sV 3) (b9 (sV 6)) (b9 (ak (sV 6) (aq (sV 0) dR (fun O=>rfl)) bY)) rfl))) bu)) (fun O O=>rfl)) (ar (aT (sC (.head _) js (aG rfl) (sA (sV 3) ab) jv))))))))⟩
noncomputable def oa: {c //aP 3 (.ref 474) c}:=⟨_,aI ["self","sector","octets"] ["many","place"] ["len","range","bytes"] [] [] (fun w=>rfl) rfl (fun w=>rfl) rfl rfl rfl bO (aF rfl (qf fun O O O=>rfl)) (by decide +kernel)
 (ai (bN (aD (ak (sC (.head _) ey (aG rfl) (sA (sV 2) ab) ez) (aq (sV 0) dR (fun O=>rfl)) dW) ag ji rfl) (cw cq) bu) (ai (bh 3 rfl (ak (sC (.head _) ey (aG rfl) (sA (sV 2) ab) ez) (aq (sV 0) dR (fun O=>rfl)) fc) rfl) (ai (bp (aL (sV 0) (sA (sV 1) (sA (sV 3) ab)) (fun O=>rfl) (.cons pF pG jV.2.fn (by decide) .nil) (fun O=>⟨_,rfl⟩)) rfl) (ai (bN (gu (aq (sV 0) qD (fun O=>rfl)) (fun O=>rfl)) (ar (aT jf)) bu) (ai (dM (aY (sC (mi 1 rfl) kA (aG rfl) (sA (sV 3) ab) kF)) (bB 4 rfl (fun h=>nomatch h)) (ar (bp (eA (aq (sV 0) sa (fun O=>rfl)) (sA (b7 (sA (ak (sV 1) (sV 4) bY) (sA (sC (.tail _ (mi 1 rfl)) js (aG rfl) (sA (eB (sV 2) (b9 (ak (sV 4) (aq (sV 0) dR (fun O=>rfl)) gD)) (b9 (ak (ak (sV 4) ag bY) (aq (sV 0) dR (fun O=>rfl)) gD))) ab) jv) ab))) ab) (fun O=>rfl) (gk F.slot_list_append F.type_list_append) uC (fun O=>⟨_,rfl⟩)) rfl)) (fun O O=>rfl)) (ai (bk (ak (aq (sV 0) H_ (fun O=>rfl)) (sV 3) bY) (sV 0) zy rfl) (ar (aT jf))))))))⟩
noncomputable def qI: {c //aP 1 (.ref 481) c}:=⟨_,aI ["self","sector","octets"] [] [] [] [] (fun w=>rfl) rfl (fun w=>rfl) rfl rfl rfl bO (aF rfl (qf fun O O O=>rfl)) (by decide +kernel)
 (ar (zT (sV 2) (aq (sV 0) gM (fun O=>rfl)) (b9 (ak (sV 1) (aq (sV 0) dR (fun O=>rfl)) gD)) (b9 (ak (ak (sV 1) ag bY) (aq (sV 0) dR (fun O=>rfl)) gD)) rfl))⟩
noncomputable def og: {c //aP 2 (.ref 488) c}:=⟨_,aI ["self"] ["sector","octets"] [] [] [] (fun w=>rfl) rfl (fun w=>rfl) rfl rfl rfl bO (aF rfl (gE fun O=>rfl)) (by decide +kernel)
 (ai (bN (gu (aq (sV 0) qD (fun O=>rfl)) (fun O=>rfl)) (ar (aT jf)) bu) (ai (dM (aY (aq (sV 0) sa (fun O=>rfl))) (fv (.cons (i:=1) rfl (fun h=>nomatch h) (.cons (i:=2) rfl (fun h=>nomatch h) .nil))) (ar (bp (aL (sV 0) (sA (sV 1) (sA (sV 2) ab)) (fun O=>rfl) (.cons Dm Dn qI.2.fn (by decide) .nil) (fun O=>⟨_,rfl⟩)) rfl)) (fun O O=>rfl)) (ai (bk (cN ab) (sV 0) xt rfl) (ar (aT jf)))))⟩
noncomputable def pP: {c //aP 3 (.ref 516) c}:=⟨_,aI ["self","sector","at","octet"] [] [] [] [] (fun w=>rfl) rfl (fun w=>rfl) rfl rfl rfl bO (aF rfl (uc fun O O O O=>rfl)) (by decide +kernel)
 (ai (bp (aL (sV 0) (sA (sV 1) (sA ag ab)) (fun O=>rfl) (.cons pF pG jV.2.fn (by decide) .nil) (fun O=>⟨_,rfl⟩)) rfl) (ai (bN (f9 (gC ag (sV 2) (aq (sV 0) dR (fun O=>rfl)) fR fS rfl)) (cw cq) bu) (ar (wH (sV 3) (aq (sV 0) gM (fun O=>rfl)) (ak (ak (sV 1) (aq (sV 0) dR (fun O=>rfl)) gD) (sV 2) bY) rfl))))⟩
noncomputable def jy: {c //aP 4 (.ref 385) c}:=⟨_,aI ["disk","shape"] [] ["label_sectors"] [] [] (fun w=>rfl) rfl (fun w=>rfl) rfl rfl rfl bO (aF rfl (iG fun O O=>rfl)) (by decide +kernel)
 (ar (aT (cN (sA ag (sA (ak (aL (sV 0) ab (fun O=>rfl) (.cons qc qd jx.2.fn (by decide) .nil) (fun O=>⟨_,rfl⟩)) (sC (.head _) vi vj (sA (sV 1) ab) k_.2.fn) oT) ab)))))⟩
noncomputable def nj: {c //aP 2 (.ref 390) c}:=⟨_,aI ["octets"] ["first","second"] ["sum","enumerate","octets_of"] [] [] (fun w=>rfl) rfl (fun w=>rfl) rfl rfl rfl bO (aF rfl (gE fun O=>rfl)) (by decide +kernel)
 (ai (bh 1 rfl (ak ag (sC (.head _) Df (aG rfl) (sA (sV 0) ab) DD) bY) rfl) (ai (bh 2 rfl (sC (.head _) Df (aG rfl) (sA (cZ (own:= ["place","octet"]) (cap:= []) (gs:= []) (idx:= []) (by decide +kernel) (Ac (mi 1 rfl) tX (sV 0) (fun O=>rfl)) (fv (.cons (i:=0) rfl (fun O=>rfl) (.cons (i:=1) rfl (fun O=>rfl) .nil))) c_ (ak (ak (sV 0) ag bY) (sV 1) gD) (fun O O=>rfl)) ab) DD) rfl) (ar (aT (ak (sC (.tail _ (mi 1 rfl)) jR jS (sA (ak (sV 1) (ak ag ag Dq) dW) (sA ag ab)) gP.2.fn) (sC (.tail _ (mi 1 rfl)) jR jS (sA (ak (sV 2) (ak ag ag Dq) dW) (sA ag ab)) gP.2.fn) bY)))))⟩
noncomputable def mI: {c //aP 3 (.ref 397) c}:=⟨_,aI ["shape","octets"] ["size","rest"] ["config_sectors","SUM","LENGTH","len","octets_of","bytes","padded","part_sum"] [] [] (fun w=>rfl) rfl (fun w=>rfl) rfl rfl rfl bO (aF rfl (iG fun O O=>rfl)) (by decide +kernel)
 (ai (bh 2 rfl (ak (sC (.head _) kh ki (sA (sV 0) ab) gm.2.fn) (aq (sV 0) dR (fun O=>rfl)) gD) rfl) (ai (bN (aD (ak (ak (bA (mi 1 rfl) qC) (bA (.tail _ (mi 1 rfl)) nT) bY) (sC (.tail _ (.tail _ (mi 1 rfl))) ey (aG rfl) (sA (sV 1) ab) ez) bY) (sV 2) kZ rfl) (cw cq) bu) (ai (bh 3 rfl (ak (sC (.tail _ (.tail _ (.tail _ (mi 1 rfl)))) jR jS (sA (sC (.tail _ (.tail _ (mi 1 rfl))) ey (aG rfl) (sA (sV 1) ab) ez) (sA (bA (.tail _ (mi 1 rfl)) nT) ab)) gP.2.fn) (sC (.tail _ (.tail _ (.tail _ (.tail _ (mi 1 rfl))))) js (aG rfl) (sA (sV 1) ab) jv) bY) rfl) (ar (aT (sC (.tail _ (.tail _ (.tail _ (.tail _ (.tail _ (mi 1 rfl)))))) HY HZ (sA (ak (sC (.tail _ (.tail _ (.tail _ (.tail _ (.tail _ (.tail _ (mi 1 rfl))))))) vk vm (sA (sV 3) ab) nj.2.fn) (sV 3) bY) (sA (sV 2) ab)) uG.2.fn))))))⟩
noncomputable def pQ: {c //aP 3 (.ref 404) c}:=⟨_,aI ["part"] ["end"] ["SUM","LENGTH","number_of","len","part_sum"] [] [] (fun w=>rfl) rfl (fun w=>rfl) rfl rfl rfl bO (aF rfl (gE fun O=>rfl)) (by decide +kernel)
 (ai (bh 1 rfl (ak (ak (bA (.head _) qC) (bA (mi 1 rfl) nT) bY) (sC (.tail _ (mi 1 rfl)) jP jQ (sA (eB (sV 0) (b9 (bA (.head _) qC)) (b9 (ak (bA (.head _) qC) (bA (mi 1 rfl) nT) bY))) ab) gO.2.fn) bY) rfl) (ai (bN (bG (b4 (aD (sV 1) (sC (.tail _ (.tail _ (mi 1 rfl))) ey (aG rfl) (sA (sV 0) ab) ez) kZ rfl) (b4 (aD (sC (.tail _ (.tail _ (.tail _ (mi 1 rfl)))) vk vm (sA (eB (sV 0) (b9 (bA (.head _) qC)) (b9 (sV 1))) ab) nj.2.fn) (eB (sV 0) fM (b9 (bA (.head _) qC))) ji rfl) dY))) (ar (aT d_)) bu) (ar (aT (eB (sV 0) (b9 (ak (bA (.head _) qC) (bA (mi 1 rfl) nT) bY)) (b9 (sV 1)))))))⟩
noncomputable def oh: {c //aP 5 (.ref 411) c}:=⟨_,aI ["disk","shape","octets"] ["part","begin"] ["config_part","label_begins"] [] [] (fun w=>rfl) rfl (fun w=>rfl) rfl rfl rfl bO (aF rfl (qf fun O O O=>rfl)) (by decide +kernel)
 (ai (bh 3 rfl (sC (.head _) xZ x_ (sA (sV 1) (sA (sV 2) ab)) mI.2.fn) rfl) (ar (dM (aY (sC (mi 1 rfl) qa qb (sA (sV 0) (sA (sV 1) ab)) jy.2.fn)) (bB 4 rfl (fun h=>nomatch h)) (ar (bp (aL (sV 0) (sA (sV 4) (sA (sV 3) ab)) (fun O=>rfl) (.cons zB zC oa.2.fn (by decide) .nil) (fun O=>⟨_,rfl⟩)) rfl)) (fun O O=>rfl))))⟩
noncomputable def gx: {c //aP 5 (.ref 418) c}:=⟨_,aI ["disk","shape"] ["begin","part","found"] ["label_begins","config_sectors","config_in"] [] [] (fun w=>rfl) rfl (fun w=>rfl) rfl rfl rfl bO (aF rfl (iG fun O O=>rfl)) (by decide +kernel)
 (ai (dM (aY (sC (.head _) qa qb (sA (sV 0) (sA (sV 1) ab)) jy.2.fn)) (bB 2 rfl (fun h=>nomatch h)) (ai (bh 3 rfl (aL (sV 0) (sA (sV 2) (sA (sC (mi 1 rfl) kh ki (sA (sV 1) ab) gm.2.fn) ab)) (fun O=>rfl) (.cons Bb Bc iO.2.fn (by decide) .nil) (fun O=>⟨_,rfl⟩)) rfl) (ai (bh 4 rfl (kP (aD (sV 3) d_ Ip rfl) d_ (sC (.tail _ (mi 1 rfl)) A8 A9 (sA (sV 3) ab) pQ.2.fn)) rfl) (ar (bN (aD (sV 4) d_ nH rfl) (ar (aT (sV 4))) bu)))) (fun O O=>rfl)) (ar (aT d_)))⟩
noncomputable def lJ: {c //aP 7 (.ref 425) c}:=⟨_,aI ["guid","config"] [] ["octets_of","GUID","config_octets"] [] [] (fun w=>rfl) rfl (fun w=>rfl) rfl rfl rfl bO (aF rfl (iG fun O O=>rfl)) (by decide +kernel)
 (ar (aT (ak (sC (.head _) jR jS (sA (sV 0) (sA (bA (mi 1 rfl) r_) ab)) gP.2.fn) (sC (.tail _ (mi 1 rfl)) oQ oR (sA (sV 1) ab) iX.2.fn) bY)))⟩
noncomputable def lK: {c //aP 8 (.ref 432) c}:=⟨_,aI ["disks","config","shape"] ["guid"] ["sorted","put_config","label_octets"] [] [] (fun w=>rfl) rfl (fun w=>rfl) rfl rfl rfl bO (aF rfl (qf fun O O O=>rfl)) (by decide +kernel)
 (ar (dM (aY (sC (.head _) uu (aG rfl) (sA (sV 0) ab) uD)) (bB 3 rfl (fun h=>nomatch h)) (ai (bp (sC (mi 1 rfl) zr zt (sA (bK (sV 0) (sV 3) (fun O O=>rfl)) (sA (sV 2) (sA (sC (.tail _ (mi 1 rfl)) wq wt (sA (sV 3) (sA (sV 1) ab)) lJ.2.fn) ab))) oh.2.fn) rfl) (ar (bp (aL (bK (sV 0) (sV 3) (fun O O=>rfl)) ab (fun O=>rfl) (.cons zD zE og.2.fn (by decide) .nil) (fun O=>⟨_,rfl⟩)) rfl))) (fun O O=>rfl)))⟩
end
section
noncomputable def gF: {c //aP 1 (.ref 542) c}:=⟨_,aI ["script","at"] [] ["len"] [] [] (fun w=>rfl) rfl (fun w=>rfl) rfl rfl rfl bO (aF rfl (iG fun O O=>rfl)) (by decide +kernel)
 (ar (aT (kP (aD (sV 1) (sC (.head _) ey (aG rfl) (sA (sV 0) ab) ez) fS rfl) (bK (sV 0) (sV 1) (fun O O=>rfl)) (ak (ak ag (sV 1) gD) ag bY))))⟩
noncomputable def iP: {c //aP 1 (.ref 547) c}:=⟨_,aI ["many","way"] ["plans"] ["range"] [] [] (fun w=>rfl) rfl (fun w=>rfl) rfl rfl rfl bO (aF rfl (iG fun O O=>rfl)) (by decide +kernel)
 (ai (qz 2 rfl rfl (by decide +kernel) (own:= ["k"]) (cap:= []) (gs:= []) (idx:= []) (by decide +kernel) (aY (sC (.head _) kA (aG rfl) (sA (sV 0) ab) kF)) (bB 0 rfl (fun O=>rfl)) c_ (b7 (sA cH (sA (ak ag (sV 0) bY) ab))) (fun O O=>rfl)) (ai (bN (bG (bS (aD (sV 1) ag eT rfl) (bS (aD (sV 0) ag kZ rfl) dB))) (ar (aT (ak (cN (sA (b7 (sA cH (sA (eB (sV 2) fM (b9 ag)) ab))) ab)) (eB (sV 2) (b9 ag) fM) bY))) bu) (ar (aT (kP (bG (bS (aD (sV 1) ag eT rfl) (bS (aD (sV 0) ag kZ rfl) dB))) (ak (cN (sA (b7 (sA cH (sA ag (sA (eB (sV 2) fM (b9 ag)) ab)))) ab)) (eB (sV 2) (b9 ag) fM) bY) (sV 2))))))⟩
noncomputable def mJ: {c //aP 6 (.ref 554) c}:=⟨_,aI ["script"] ["a","b","c","first","second"] ["_law_cell","config_of_plans","_law_plans"] [] [] (fun w=>rfl) rfl (fun w=>rfl) rfl rfl rfl bO (aF rfl (gE fun O=>rfl)) (by decide +kernel)
 (ai (lH (names:= ["a","b","c"]) (b7 (sA (sC (.head _) jq jr (sA (sV 0) (sA ag ab)) gF.2.fn) (sA (sC (.head _) jq jr (sA (sV 0) (sA ag ab)) gF.2.fn) (sA (sC (.head _) jq jr (sA (sV 0) (sA ag ab)) gF.2.fn) ab)))) (.cons (i:=3) rfl (.cons (i:=2) rfl (.cons (i:=1) rfl .nil))) rfl rfl (fun O=>by kernel_rfl!)) (ai (bh 4 rfl (sC (mi 1 rfl) jG jH (sA (ak cH (bK cH (ak (sV 1) ag dW) (fun O O=>rfl)) bY) (sA (ak ag (ak (sV 2) ag dW) bY) (sA (sC (.tail _ (mi 1 rfl)) pD pE (sA (ak ag (ak (ak (sV 1) ag fc) ag dW) bY) (sA (ak (ak (sV 1) ag fc) ag dW) ab)) iP.2.fn) (sA (ak ag (ak (ak (sV 1) ag fc) ag dW) bY) ab)))) fQ.2.fn) rfl) (ai (bh 5 rfl (sC (mi 1 rfl) jG jH (sA (aq (sV 4) zv (fun O=>rfl)) (sA (aq (sV 4) fG (fun O=>rfl)) (sA (sC (.tail _ (mi 1 rfl)) pD pE (sA (ak ag (ak (ak (sV 2) ag fc) ag dW) bY) (sA (ak (ak (sV 2) ag fc) ag dW) ab)) iP.2.fn) (sA (ak ag (ak (ak (sV 2) ag fc) ag dW) bY) ab)))) fQ.2.fn) rfl) (ar (aT (cN (sA (sV 4) (sA (sV 5) (sA (sC (mi 1 rfl) jG jH (sA cH (sA ag (sA (sC (.tail _ (mi 1 rfl)) pD pE (sA (ak ag (ak (sV 3) ag dW) bY) (sA (ak (ak (sV 3) ag fc) ag dW) ab)) iP.2.fn) (sA (ak ag (ak (ak (sV 3) ag fc) ag dW) bY) ab)))) fQ.2.fn) ab)))))))))⟩
noncomputable def nq: {c //aP 4 (.ref 561) c}:=⟨_,aI ["disk","begin","at","step"] ["place"] [] [] [] (fun w=>rfl) rfl (fun w=>rfl) rfl rfl rfl bO (aF rfl (uc fun O O O O=>rfl)) (by decide +kernel)
 (ai (bh 4 rfl (ak (ak (sV 1) ag gD) (sV 2) bY) rfl) (ar (bp (aL (sV 0) (sA (ak (sV 4) ag fc) (sA (ak (sV 4) ag dW) (sA (ak (ak (bK (aq (sV 0) gM (fun O=>rfl)) (sV 4) (fun O O=>rfl)) (sV 3) bY) ag dW) ab))) (fun O=>rfl) (.cons Bd Be pP.2.fn (by decide) .nil) (fun O=>⟨_,rfl⟩)) rfl)))⟩
noncomputable def qJ: {c //aP 9 (.ref 568) c}:=⟨_,aI ["shape","configs","x"] ["disk","which","number","config","y","end","at","step"] ["Disk","write_labels","dict","len","config_octets","_law_harm"] [] [] (fun w=>rfl) rfl (fun w=>rfl) rfl rfl rfl bO (aF rfl (qf fun O O O=>rfl)) (by decide +kernel)
 (ai (lH (names:= ["disk","which","number"]) (b7 (sA (sC (.head _) MI MJ (sA ag (sA (sV 0) ab)) FX.2.fn) (sA (ak (sV 2) ag dW) (sA (ak ag (ak (ak (sV 2) ag fc) ag dW) bY) ab)))) (.cons (i:=5) rfl (.cons (i:=4) rfl (.cons (i:=3) rfl .nil))) rfl rfl (fun O=>by kernel_rfl!)) (ai (bN (aD (sV 4) ag eT rfl) (ar (aT (b7 (sA (sV 3) (sA d_ ab))))) bu) (ai (lH (names:= ["config","y"]) (b7 (sA (bK (sV 1) (sV 4) (fun O O=>rfl)) (sA (ak (sV 2) ag fc) ab))) (.cons (i:=7) rfl (.cons (i:=6) rfl .nil)) rfl rfl (fun O=>by kernel_rfl!)) (ai (bp (sC (mi 1 rfl) wu wx (sA (sC (.tail _ (mi 1 rfl)) MN (aG rfl) (sA (cN (sA (b7 (sA (sV 5) (sA (sV 3) ab))) ab)) ab) IB) (sA (sV 6) (sA (sV 0) ab))) lK.2.fn) rfl) (ai (lH (names:= ["end","at","step"]) (b7 (sA (ak ag (sC (.tail _ (.tail _ (mi 1 rfl))) ey (aG rfl) (sA (sC (.tail _ (.tail _ (.tail _ (mi 1 rfl)))) oQ oR (sA (sV 6) ab) iX.2.fn) ab) ez) bY) (sA (ak (ak (sV 7) ag fc) ag dW) (sA (ak ag (ak (ak (sV 7) ag fc) ag dW) bY) ab)))) (.cons (i:=10) rfl (.cons (i:=9) rfl (.cons (i:=8) rfl .nil))) rfl rfl (fun O=>by kernel_rfl!)) (ai (bN (aD (ak (sV 7) ag dW) (b7 (sA ag (sA ag ab))) Iq rfl) (ar (bp (sC (.tail _ (.tail _ (.tail _ (.tail _ (mi 1 rfl))))) vn vo (sA (sV 3) (sA ag (sA (sV 9) (sA (sV 10) ab)))) nq.2.fn) rfl)) bu) (ai (bN (aD (ak (sV 7) ag dW) (b7 (sA ag (sA ag ab))) Iq rfl) (ar (bp (sC (.tail _ (.tail _ (.tail _ (.tail _ (mi 1 rfl))))) vn vo (sA (sV 3) (sA ag (sA (sV 9) (sA (sV 10) ab)))) nq.2.fn) rfl)) bu) (ai (bk (Iw (BP (ak (sV 7) ag dW) ag eT rfl) (BP (ak (ak (sV 7) ag fc) ag dW) ag eT rfl)) (sV 3) zx rfl) (ar (aT (b7 (sA (sV 3) (sA (kP (bG (b4 (gu (aq (sV 3) qD (fun O=>rfl)) (fun O=>rfl)) (b4 (bG (bS (aD (ak (sV 7) ag dW) ag eT rfl) (bS (aD (sV 9) (sV 8) fS rfl) dB))) dY))) d_ (b7 (sA (sV 5) (sA (sV 4) ab)))) ab)))))))))))))⟩
noncomputable def qK: {c //aP 8 (.ref 575) c}:=⟨_,aI ["disk","shape"] ["octets"] ["read_config","number_of","config_of"] [] [] (fun w=>rfl) rfl (fun w=>rfl) rfl rfl rfl bO (aF rfl (iG fun O O=>rfl)) (by decide +kernel)
 (ai (bh 2 rfl (sC (.head _) mw mx (sA (sV 0) (sA (sV 1) ab)) gx.2.fn) rfl) (ar (aT (kP (aD (sV 2) d_ Ip rfl) d_ (b7 (sA (sC (mi 1 rfl) jP jQ (sA (eB (sV 2) fM (b9 ag)) ab) gO.2.fn) (sA (aL (sC (.tail _ (mi 1 rfl)) pB pC (sA (eB (sV 2) (b9 ag) fM) ab) jU.2.fn) ab (fun O=>rfl) (.cons jt ju f_.2.fn (by decide) .nil) (fun O=>⟨_,rfl⟩)) ab)))))))⟩
noncomputable def mK: {c //aP 8 (.ref 535) c}:=⟨_,aI ["disks","shape"] ["rows","disk","octets","newest","config","own","guid","other"] ["read_config","number_of","GUID","config_of","max","all_disks"] [] [] (fun w=>rfl) rfl (fun w=>rfl) rfl rfl rfl bO (aF rfl (iG fun O O=>rfl)) (by decide +kernel)
 (ai (bh 2 rfl (cN ab) rfl) (ai (dM (aY (sV 0)) (bB 3 rfl (fun h=>nomatch h)) (ai (bh 4 rfl (sC (.head _) mw mx (sA (sV 3) (sA (sV 1) ab)) gx.2.fn) rfl) (ar (bN (aD (sV 4) d_ nH rfl) (ar (wM (ar (bp (eA (sV 2) (sA (b7 (sA (sC (mi 1 rfl) jP jQ (sA (eB (sV 4) fM (b9 (bA (.tail _ (mi 1 rfl)) r_))) ab) gO.2.fn) (sA (sC (.tail _ (.tail _ (mi 1 rfl))) pB pC (sA (eB (sV 4) (b9 (bA (.tail _ (mi 1 rfl)) r_)) fM) ab) jU.2.fn) (sA (sV 3) ab)))) ab) (fun O=>rfl) (gk F.slot_list_append F.type_list_append) uC (fun O=>⟨_,rfl⟩)) rfl)))) bu))) (fun O O=>rfl)) (ai (bN (aD (sV 2) (cN ab) eT rfl) (cw cq) bu) (ai (bh 5 rfl (sC (.tail _ (.tail _ (.tail _ (mi 1 rfl)))) Dh (aG rfl) (sA (cZ (own:= ["guid","config","disk"]) (cap:= []) (gs:= []) (idx:= []) (by decide +kernel) (aY (sV 2)) (fv (.cons (i:=0) rfl (fun O=>rfl) (.cons (i:=1) rfl (fun O=>rfl) (.cons (i:=2) rfl (fun O=>rfl) .nil)))) c_ (aq (sV 1) kB (fun O=>rfl)) (fun O O=>rfl)) ab) DG) rfl) (ai (lH (names:= ["config","own"]) (b7 (sA (bK (cZ (own:= ["row"]) (cap:= ["newest"]) (gs:= []) (idx:= [5]) (by decide +kernel) (aY (sV 2)) (bB 0 rfl (fun O=>rfl)) (wh (aD (aq (bK (sV 0) ag (fun O O=>rfl)) kB (fun O=>rfl)) (sV 1) eT rfl)) (bK (sV 0) ag (fun O O=>rfl)) (fun O O=>rfl)) ag (fun O O=>rfl)) (sA xx ab))) (.cons (i:=7) rfl (.cons (i:=6) rfl .nil)) rfl rfl (fun O=>by kernel_rfl!)) (ai (dM (aY (sV 2)) (fv (.cons (i:=8) rfl (fun h=>nomatch h) (.cons (i:=9) rfl (fun h=>nomatch h) (.cons (i:=3) rfl (fun h=>nomatch h) .nil)))) (ar (bN (bG (bS (aD (aq (sV 9) fG (fun O=>rfl)) (aq (sV 6) fG (fun O=>rfl)) eT rfl) (bS (aD (sV 8) (sC (.tail _ (.tail _ (.tail _ (.tail _ (mi 1 rfl))))) A6 A7 (sA (sV 6) ab) pM.2.fn) Iq rfl) (bS (aD (sV 8) (sV 7) tj rfl) dB)))) (ar (wH (sV 3) (sV 7) (sV 8) rfl)) bu)) (fun O O=>rfl)) (ar (aT (b7 (sA (sV 6) (sA (sV 7) ab)))))))))))⟩
end
section
variable {m m1:MH}{o:MO}{i k:Nat}{α β:Type}{c co d dy:av->MM MV}{v:MV}{fr:av}{ci:av->MM Src}{idx:List Nat}{src:Src}{a b n:Int}{tg:MV->SM}{test:av->MM Bool}{f:Nat->MV}{F:List MV->MM MV}{ca:av->MM (List MV)}
structure Ext (m m':MH):Prop where
 n:m.n<=m'.n
 ob:∀i,i<m.n->m'.ob i=m.ob i
theorem Ext.refl(m:MH):Ext m m:=⟨dU _,fun O O=>rfl⟩
theorem Ext.trans{a b c:MH}(x:Ext a b)(y:Ext b c):Ext a c:=⟨jc x.n y.n,fun i h=>(y.ob i (eE h x.n)).trans (x.ob i h)⟩
theorem Ext.new(m:MH)(o:MO):Ext m (m.new o):=⟨Nat.le_succ _,fun i h=>if_neg (Nat.ne_of_lt h)⟩
theorem bc(m:MH)(o:MO):(m.new o).ob m.n=o:=if_pos rfl
theorem eu(m:MH)(o:MO):(m.new o).n=m.n+1:=rfl
theorem cU(h:i<m.n):(m.new o).ob i=m.ob i:=if_neg (Nat.ne_of_lt h)
theorem fL(m:MH)(i:Nat)(o:MO):(m.set i o).ob i=o:=if_pos rfl
theorem sy(m:MH)(i:Nat)(o:MO):(m.set i o).n=m.n:=rfl
theorem cj{j:Nat}(h:j≠i):(m.set i o).ob j=m.ob j:=if_neg h
theorem MM.eI{c:MM α}{f:α->MM β}{a:α}(h:c m=some (a,m1)):MM.bind c f m=f a m1:=by unfold MM.bind;rw [h]
theorem SM.DQ{k:MV->SM}(h:c fr m=some (v,m1)):SM.use c k fr m=k v fr m1:=by unfold SM.use;rw [h]
theorem SM.JL{c d:SM}{et:av}(h:c fr m=some (.next,et,m1)):SM.seq c d fr m=d et m1:=by unfold SM.seq;rw [h]
theorem SM.FY{c:av->MM Bool}{a b:SM}{v:Bool}(h:c fr m=some (v,m1)):SM.test c a b fr m=(bif v then a fr m1 else b fr m1):=by unfold SM.test;rw [h]
theorem aV{γ:Type}{q:Option γ}{x:γ}{f:γ->Option β}(h:q=some x):q.bind f=f x:=by subst h;rfl
theorem Cc{k:av->MH->Option α}{o:Option (eH×av×MH)}(h:o=some (.next,fr,m)):CW k o=k fr m:=by subst h;rfl
section
variable {src:Src}{n r:Nat}{tg:MV->SM}{body:SM}{fr et:av}{m m1:MH}{v:MV}{test:av->MM Bool}{dy:av->MM MV}{ys zs:List MV}
theorem SM.NA(hl:src.len m=some n)(h1:src.item (n-(r+1)) m=some v)(e1:tg v fr m=some (.next,et,m1)):SM.loop src n tg body (r+1) fr m=HF (SM.loop src n tg body r) (body et m1):=
 (if_pos hl).trans ((aV h1).trans (Cc e1))
theorem Ah{t:Bool×MH}(hl:src.len m=some n)(h1:src.item (n-(r+1)) m=some v)(e1:tg v fr m=some (.next,et,m1))(e2:test et m1=some t):
  gY src n tg test dy (r+1) ys fr m=bif t.1 then(dy et t.2).bind fun y=>gY src n tg test dy r (ys++ [y.1]) et y.2 else gY src n tg test dy r ys et t.2:=
 (if_pos hl).trans ((aV h1).trans ((Cc e1).trans (aV e2)))
theorem Cd{m2:MH}(hc:ci fr m=some (src,m1))(hl:src.len m1=some n)(hn:n<=100000)(e:gY src n tg test dy n [] (List.replicate k none++idx.map (slot fr)) m1=some (zs,m2)):jg ci k idx tg test dy fr m=some (.obj m2.n,m2.new (.list zs)):=
 (aV hc).trans ((aV hl).trans ((if_pos hn).trans (aV e)))
end
theorem vG{n:Nat}(Inv:av->Prop)(hl:src.len m=some n)
  (DR:∀k,k<n->∃v,src.item k m=some v/\∀fr,Inv fr->∃fE,tg v fr m=some (.next,fE,m)/\Inv fE/\test fE m=some (true,m)/\dy fE m=some (f k,m)):
  ∀r ys fr,r<=n->Inv fr->gY src n tg test dy r ys fr m=some (ys++(List.range' (n-r) r).map f,m)
 |0,ys,fr,h,i=>(if_pos hl).trans (by simp)
 |r+1,ys,fr,h,i=>by
  obtain⟨v,h1,h2⟩:=DR (n-(r+1)) (by exact TN h);obtain⟨fE,q1,q2,q3,q4⟩:=h2 fr i;refine(Ah (t:=(true,m)) hl h1 q1 q3).trans ((aV (x:=(f (n-(r+1)),m)) q4).trans ?_);rw [vG Inv hl DR r (ys++ [f (n-(r+1))]) fE (by exact Ph h) q2];rw [show n-r=n-(r+1)+1 by exact Yo h,List.range'_succ];simp
theorem kH{n:Nat}(Inv:av->Prop)(hc:ci fr m=some (src,m1))(hl:src.len m1=some n)(hn:n<=100000)
  (h0:Inv (List.replicate k none++idx.map (slot fr)))
  (DR:∀k,k<n->∃v,src.item k m1=some v/\∀fr,Inv fr->∃fE,tg v fr m1=some (.next,fE,m1)/\Inv fE/\test fE m1=some (true,m1)/\dy fE m1=some (f k,m1)):
  jg ci k idx tg test dy fr m=some (.obj m1.n,m1.new (.list ((List.range n).map f))):=by
 rw [Cd hc hl hn (vG Inv hl DR n [] _ (dU _) h0)];simp [List.range_eq_range']
noncomputable def bP(k:Nat)(n:Int):List UInt8:=(List.range k).map fun p=>((n.fdiv (2 ^ (8*p))).fmod 256).toNat.toUInt8
theorem Qz(h:0<=a):Builtin.bitAnd a 255=a.fmod 256:=by
 rw [PyProof.Rows.bitAnd_pp h (bR rfl)];obtain⟨k,rfl⟩:∃k:Nat,a=k:=⟨a.toNat,by exact Pn h⟩;rw [l9,show(255:Int).toNat=2 ^ 8-1 from rfl,Nat.and_two_pow_sub_one_eq_mod,Int.fmod_eq_emod_of_nonneg _ (bR rfl)]
 omega
theorem fdiv_pow(h:0<=n)(p:Nat):0<=n.fdiv (2 ^ p):=Int.fdiv_nonneg h (Int.le_of_lt (Int.pow_pos (bR rfl)))
section
variable {β:Type}{o:MO}
theorem cC{x:List MV}{f:List MV->Option β}(h:o= .list x):o.gR.bind f=f x:=by subst h;rfl
theorem Ai{x:List UInt8}{f:List UInt8->Option β}(h:o= .ba x):o.Kq.bind f=f x:=by subst h;rfl
theorem inst_bind{x:Addr}{f:Addr->Option β}(h:o= .inst x):o.inst?.bind f=f x:=by subst h;rfl
theorem wN{x:List (Str×MV)}{f:List (Str×MV)->Option β}(h:o= .dP x):o.EP.bind f=f x:=by subst h;rfl
theorem Aj{x:List (Int×MV)}{f:List (Int×MV)->Option β}(h:o= .dict x):o.Hw.bind f=f x:=by subst h;rfl
end
section
variable {m:MH}{i:Nat}{C:Addr}{cs:List Addr}{k:Str}{fs:List (Str×MV)}
theorem get_eq(a:m.ob i= .inst C)(r:m.ob (i+1)= .dP fs)(hC:C∈cs)(hf:ly k fs=some v)(hp:v.plain=true):vd cs k (.obj i) m=some (v,m):=
 (inst_bind a).trans ((if_pos hC).trans ((wN r).trans ((aV hf).trans (if_pos hp))))
theorem vH(a:m.ob i= .inst C)(r:m.ob (i+1)= .dP fs)(hf:ly k fs=none):qB k [(C,F)] (.obj i) m=some (F,m):=
 (inst_bind a).trans ((wN r).trans ((if_pos hf).trans (aV (by rw [List.lookup_cons,beq_self_eq_true]))))
theorem la{x:MV}(a:m.ob i= .inst C)(r:m.ob (i+1)= .dP fs)(hC:C∈cs)(hi:i<m.n)(hf:fs.length<=100):p8 cs k (.obj i) x m=some ((),m.set (i+1) (.dP (vb k x fs))):=
 (inst_bind a).trans ((if_pos ⟨hC,hi⟩).trans ((wN r).trans (if_pos hf)))
end
theorem JM{b:List UInt8}(o:m.ob i= .ba b):yk JI (.obj i) m=some ((),m):=if_pos (by show((m.ob i).Kq).isSome=true;rw [o];rfl)
theorem NB{b:List MV}(o:m.ob i= .list b):yk Ir (.obj i) m=some ((),m):=if_pos (by show((m.ob i).gR).isSome=true;rw [o];rfl)
theorem gG(f:Int->Int->Bool)(a b:Int)(m:MH):kY f (.int a) (.int b) m=some (f a b,m):=rfl
theorem K1(a b:Int)(m:MH):zO (.int a) (.int b) m=some (.int (a+b),m):=rfl
theorem F0(a b:Int)(m:MH):Ju (.int a) (.int b) m=some (.int (a-b),m):=rfl
theorem NC(a b:Int)(m:MH):SA (.int a) (.int b) m=some (.int (Builtin.bitAnd a b),m):=rfl
theorem ND(h:0<=b):M6 (.int a) (.int b) m=some (.int (a.fdiv (2 ^ b.toNat)),m):=if_pos h
theorem NF(h:0<=b/\b<=1000000/\a.natAbs<2 ^ 64):M5 (.int a) (.int b) m=some (.int (a*2 ^ b.toNat),m):=if_pos h
theorem vI(h:a.natAbs<2 ^ 64\/b.natAbs<2 ^ 64):BZ (.int a) (.int b) m=some (.int (a*b),m):=if_pos h
theorem F_(h:0<=b/\b<=1000000/\a.natAbs<2 ^ 64):Jw (.int a) (.int b) m=some (.int (a ^ b.toNat),m):=if_pos h
theorem Ce(h:b≠0/\b.natAbs<2 ^ 64):Dp (.int a) (.int b) m=some (.int (a.fdiv b),m):=if_pos h
theorem Ga(h:b≠0):Jv (.int a) (.int b) m=some (.int (a.fmod b),m):=if_pos h
theorem DS(a:α)(m:MH):MM.ret a m=some (a,m):=rfl
theorem U9(h:slot fr i=some v):rd fr i m=some (v,m):=by unfold rd;rw [h]
section
variable {α β:Type}{fr:av}{m m1 m2 m3:MH}{v x y:MV}{xs:List MV}
theorem U_(a:α)(fr:av)(m:MH):Kc a fr m=some (a,m):=rfl
theorem IC(h:slot fr i=some v):Rd i fr m=some (v,m):=U9 h
theorem vJ{c:av->MM β}{f:β->MM α}{b:β}(h:c fr m=some (b,m1)):oG c f fr m=f b m1:=MM.eI h
theorem qL{f:MV->MV->MM α}(h:c fr m=some (x,m1))(k:d fr m1=some (y,m2)):tC c d f fr m=f x y m2:=(MM.eI h).trans (MM.eI k)
theorem ID{cs:av->MM (List MV)}(h:c fr m=some (x,m1))(k:cs fr m1=some (xs,m2)):AC c cs fr m=some (x::xs,m2):=(MM.eI h).trans (MM.eI k)
theorem Gb{c d:av->MM Bool}{b:Bool}(h:c fr m=some (b,m1)):Jl c d fr m=(bif b then d fr else MM.ret false) m1:=MM.eI h
theorem JN{c d:av->MM Bool}{b:Bool}(h:c fr m=some (b,m1)):PH c d fr m=(bif b then MM.ret true else d fr) m1:=MM.eI h
theorem JO{t:av->MM Bool}{b:Bool}(h:t fr m=some (b,m1)):PI t c d fr m=(bif b then c fr else d fr) m1:=MM.eI h
theorem JP{k:Str}{cands:List (Addr×(List MV->MM MV))}(h:co fr m=some (x,m1))(h2:qB k cands x m1=some (F,m2))(h3:ca fr m2=some (xs,m3)):ME k cands co ca fr m=F (x::xs) m3:=
 (MM.eI h).trans ((MM.eI h2).trans (MM.eI h3))
theorem JQ{P:MH->MV->Bool}{f:List MV->MM MV}(h:co fr m=some (x,m1))(h2:yk P x m1=some ((),m2))(h3:ca fr m2=some (xs,m3)):Qo P f co ca fr m=f (x::xs) m3:=
 (MM.eI h).trans ((MM.eI h2).trans (MM.eI h3))
theorem JR{cv cl ch:av->MM MV}(h:cv fr m=some (v,m1))(h2:cl fr m1=some (x,m2))(h3:ch fr m2=some (y,m3)):Nc cv cl ch fr m=t_ v x y m3:=
 (MM.eI h).trans ((MM.eI h2).trans (MM.eI h3))
theorem Va(x:MV)(m:MH):rS x m=some (srcOf x,m):=rfl
theorem aeb(m:MH):rN true m=some (false,m):=rfl
end
theorem qM{dv:List MV}{r:Nat}{c:SM}{xs:List MV}{m':MH}{f:eH}(hl:xs.length<=k/\k<=xs.length+dv.length)(h:c ((xs++dv.drop (xs.length+dv.length-k)).map some++List.replicate r none) m=some (f,fr,m'))(hf:f= .ret v\/(f= .next/\v= .none)):
  dc k dv r c xs m=some (v,m'):=by
 unfold dc;rw [if_pos hl,h];rcases hf with rfl|⟨rfl,rfl⟩ <;> rfl
theorem vK(h:(k:Int)<2 ^ 60):(srcOf (.pk 0 k)).len m=some k:=by
 dsimp only [srcOf];rw [if_pos ⟨rfl,Int.natCast_nonneg _,h⟩,l9]
theorem K3(hn:0<=n)(k:Nat)(ks:List Nat):intsOf (ks.map fun p=>MV.int (Builtin.bitAnd (n.fdiv (2 ^ (8*p))) 255))=some (ks.map fun p=>(n.fdiv (2 ^ (8*p))).fmod 256):=by
 induction ks with
 |nil=>rfl
 |cons p r ih=>
  show(intsOf (List.map _ r)).bind _=_;rw [ih,Qz (fdiv_pow hn _)];rfl
theorem Gd(n:Int)(k:Nat):Fy ((List.range k).map fun p=>(n.fdiv (2 ^ (8*p))).fmod 256)=bP k n:=by
 delta Fy bP;rw [List.map_map];rfl
theorem xA(a:Int):0<=a.fmod 256/\a.fmod 256<256:=⟨Int.fmod_nonneg_of_pos _ (bR rfl),Int.fmod_lt_of_pos _ (bR rfl)⟩
theorem Ge(hn:0<=n)(k:Nat)(hk:k<=8)(m:MH):oU (.obj m.n) (m.new (.list ((List.range k).map fun p=> .int (Builtin.bitAnd (n.fdiv (2 ^ (8*p))) 255))))=some (.bytes (bP k n),m.new (.list ((List.range k).map fun p=> .int (Builtin.bitAnd (n.fdiv (2 ^ (8*p))) 255)))):=by
 have hr:∀x∈(List.range k).map (fun p=>(n.fdiv (2 ^ (8*p))).fmod 256),0<=x/\x<256:=fun x hx=>by
  rw [List.mem_map] at hx;obtain⟨p,_,rfl⟩:=hx;exact xA _
 have hl:((List.range k).map (fun p=>(n.fdiv (2 ^ (8*p))).fmod 256)).length<=100000:=by rw [eW,List.length_range];exact O39 hk
 show qe _ ((m.new _).ob m.n)=_;rw [bc];show(intsOf _).bind _=_;rw [K3 hn k];exact(if_pos ⟨hl,hr⟩).trans (by rw [Gd])
theorem eN{a b c:Nat}(h:(Nat.ble a b&&Nat.ble b c)=true):a<=b/\b<=c:=⟨iZ (Bool.and_eq_true_iff.mp h).1,iZ (Bool.and_eq_true_iff.mp h).2⟩
set_option compiler.extract_closed false in
open Lean in
protected def alts(w:String):MacroM (TSyntax `tactic):=do
 let f <- `(tactic|first|keq_rows|with_reducible assumption|decide|with_unfolding_all rfl|(apply Nat.le_of_ble_eq_true;with_unfolding_all rfl)|(first|with_reducible assumption|decide|omega)|keq_hits|lcg_sub|(focus (with_reducible show $(mkIdent `Ok) _ _);dsimp only))
 let t <- (w.splitOn " ").mapM fun s=>do
  let l:=s.splitOn ":"
  (l.getD 1 "").toList.foldlM (fun a c=> `(tacticSeq|($a);($(⟨f.raw[1][c.toNat-97][1]⟩):tacticSeq))) (<- `(tacticSeq|with_reducible apply $(mkIdent (l.headD "").toName):ident))
 `(tactic|first $[| $(t.toArray)]* |($(⟨f.raw[1][8][1]⟩):tacticSeq))
end
section
variable {a z:Option MV}{v:MV}{r:Option (MV×MH)}{c d:SM}{fr et:av}{m m' m1:MH}{k:Nat}{dv xs:List MV}{b:Bool}{co:av->MM MV}{ca:av->MM (List MV)}
theorem Vb{r:av}(m:MH):SM.put 1 v (a::z::r) m=some (.next,a::some v::r,m):=rfl
theorem Vc{b:Option MV}{r:av}(m:MH):SM.put 2 v (a::b::z::r) m=some (.next,a::b::some v::r,m):=rfl
theorem SM.Gf(h:c fr m=some (.ret v,et,m1)):SM.seq c d fr m=some (.ret v,et,m1):=by unfold SM.seq;rw [h]
theorem SM.K4(h:c fr m=some (.cont,et,m1)):SM.seq c d fr m=some (.cont,et,m1):=by unfold SM.seq;rw [h]
theorem SM.JS{α:Type}{c:MM α}{a:α}(h:c m=some (a,m1)):SM.act c fr m=some (.next,fr,m1):=by unfold SM.act;rw [h]
theorem SM.DS(f:eH)(fr:av)(m:MH):SM.ret f fr m=some (f,fr,m):=rfl
theorem lb{r:Nat}(vg:av)(hl:xs.length<=k/\k<=xs.length+dv.length)(hf:(xs++dv.drop (xs.length+dv.length-k)).map some++List.replicate r none=vg)(h:c vg m=some (.ret v,fr,m')):
  dc k dv r c xs m=some (v,m'):=qM hl (hf▸h) (.inl rfl)
theorem sD{r:Nat}(vg:av)(hl:xs.length<=k/\k<=xs.length+dv.length)(hf:(xs++dv.drop (xs.length+dv.length-k)).map some++List.replicate r none=vg)(h:c vg m=some (.next,fr,m')):
  dc k dv r c xs m=some (.none,m'):=qM hl (hf▸h) (.inr ⟨rfl,rfl⟩)
section
variable {α β:Type}{v x y:MV}{xs:List MV}{a:α}{fr et:av}{m m1 m2 m3:MH}
theorem Vd{c:av->MM β}{f:β->MM α}{b:β}{r:Option (α×MH)}(h:c fr m=some (b,m1))(k:f b m1=r):oG c f fr m=r:=(vJ h).trans k
theorem Ve{c d:av->MM MV}{f:MV->MV->MM α}{r:Option (α×MH)}(h:c fr m=some (x,m1))(g:d fr m1=some (y,m2))(k:f x y m2=r):tC c d f fr m=r:=(qL h g).trans k
theorem QA{c d:av->MM Bool}{r:Option (Bool×MH)}(h:c fr m=some (b,m1))(k:(bif b then d fr else MM.ret false) m1=r):Jl c d fr m=r:=(Gb h).trans k
theorem Vf{c d:av->MM Bool}{r:Option (Bool×MH)}(h:c fr m=some (b,m1))(k:(bif b then MM.ret true else d fr) m1=r):PH c d fr m=r:=(JN h).trans k
theorem Vg{t:av->MM Bool}{c d:av->MM MV}(h:t fr m=some (b,m1))(k:(bif b then c fr else d fr) m1=r):PI t c d fr m=r:=(JO h).trans k
theorem Vh{k:Str}{cands:List (Addr×(List MV->MM MV))}{F:List MV->MM MV}(h:co fr m=some (x,m1))(h2:qB k cands x m1=some (F,m2))(h3:ca fr m2=some (xs,m3))(q:F (x::xs) m3=r):ME k cands co ca fr m=r:=(JP h h2 h3).trans q
theorem Vi{P:MH->MV->Bool}{f:List MV->MM MV}(h:co fr m=some (x,m1))(h2:yk P x m1=some ((),m2))(h3:ca fr m2=some (xs,m3))(q:f (x::xs) m3=r):Qo P f co ca fr m=r:=(JQ h h2 h3).trans q
theorem Vj{cv cl ch:av->MM MV}(h:cv fr m=some (v,m1))(h2:cl fr m1=some (x,m2))(h3:ch fr m2=some (y,m3))(q:t_ v x y m3=r):Nc cv cl ch fr m=r:=(JR h h2 h3).trans q
theorem MM.QC{c:MM α}{f:α->MM β}{r:Option (β×MH)}(h:c m=some (a,m1))(k:f a m1=r):MM.bind c f m=r:=(MM.eI h).trans k
theorem SM.Vk{c:av->MM MV}{k:MV->SM}{r:Option (eH×av×MH)}(h:c fr m=some (v,m1))(q:k v fr m1=r):SM.use c k fr m=r:=(SM.DQ h).trans q
theorem SM.QE{c:av->MM Bool}{a b:SM}{v:Bool}{r:Option (eH×av×MH)}(h:c fr m=some (v,m1))(q:(bif v then a fr m1 else b fr m1)=r):SM.test c a b fr m=r:=(SM.FY h).trans q
theorem SM.Vl{r:Option (eH×av×MH)}(h:c fr m=some (.next,et,m1))(q:d et m1=r):SM.seq c d fr m=r:=(SM.JL h).trans q
theorem Vm{c:MV->MM MV}(h:c x m=r):so c [x] m=r:=h
theorem Vn{c:MV->MV->MM MV}(h:c x y m=r):yj c [x,y] m=r:=h
end
end
local macro_rules | `(tactic|lcg_sub)=>do `(tactic|first|with_reducible assumption| $(<- Mine.alts "U_ IC:d rB_eq Va aeb rN_f DS SM.DS Vd:hh Ve:hhh ID:hh QA:hh Vf:hh Vg:hh Vh:hhhh Vi:hhhh Vj:hhhh Vb Vc MM.QC:hh SM.Vk:hh SM.QE:hh SM.Vl:hh SM.Gf:h SM.JS:h Vm:h Vn:h gG K1 F0"):tactic|(dsimp only [cond_true,cond_false] <;> lcg_sub))
section
variable {a z:Option MV}{v:MV}{r:Option (MV×MH)}{c d:SM}{fr et:av}{m m' m1:MH}{k:Nat}{dv xs:List MV}{b:Bool}{co:av->MM MV}{ca:av->MM (List MV)}
theorem hV{n:Int}(h0:0<=n)(h1:n<256 ^ k)(hk:k<=8)(m:MH):∃m',gP.1 [.int n,.int k] m=some (.bytes (bP k n),m')/\Ext m m':=by
 have hp:Jw (.int 256) (.int k) m=some (.int (256 ^ k),m):=by rw [F_ ⟨Int.natCast_nonneg _,by exact WJ hk,by decide⟩,l9]
 have hN:kY (fun a b=>decide (a<b)) (.int n) (.int (256 ^ k)) m=some (true,m):=by rw [gG,decide_eq_true h1]
 have hM:kY (fun a b=>decide (a<=b)) (.int 0) (.int n) m=some (true,m):=by rw [gG,decide_eq_true h0]
 have hB:=Ge h0 k hk m;dsimp only [gP];generalize hC:jg _ _ _ _ _ _=C;have hc:C [some (.int n),some (.int k)] m=some (.obj m.n,m.new (.list ((List.range k).map fun p=> .int (Builtin.bitAnd (n.fdiv (2 ^ (8*p))) 255)))):=by
  rw [<- hC];have hr:yJ [.int k] m=some (.pk 0 k,m):=rfl;refine kH (n:=k) (src:=srcOf (.pk 0 k)) (m1:=m) (fun fr=>∃o,fr= [o,some (.int n)]) (by lcg_sub) (vK (by exact WK hk)) (by exact lk hk) ⟨_,rfl⟩ (fun p hp=> ?_);refine⟨.int p,rfl, ?_⟩;rintro fr ⟨o,rfl⟩;have h1:BZ (.int 8) (.int p) m=some (.int (8*p),m):=vI (.inl (bR rfl));have h2:M6 (.int n) (.int (8*p)) m=some (.int (n.fdiv (2 ^ (8*p))),m):=by
   rw [ND (by exact Wv)]
   congr 4
  have h3:=NC (n.fdiv (2 ^ (8*p))) 255 m;exact⟨[some (.int p),some (.int n)],rfl,⟨_,rfl⟩,rfl,by lcg_sub⟩
 clear hC;exact⟨_,lb [some (.int n),some (.int k)] (eN rfl) rfl (by lcg_sub),Ext.new _ _⟩
end
section
noncomputable def Gg(b:List UInt8):List Int:=(List.range b.length).map fun k=>((b.getD k 0).toNat:Int)*2 ^ (8*k)
noncomputable def numOf(b:List UInt8):Int:=(Gg b).sum
theorem IE(b:List UInt8)(ks:List Nat):intsOf (ks.map fun k=>MV.int (((b.getD k 0).toNat:Int)*2 ^ (8*k)))=some (ks.map fun k=>((b.getD k 0).toNat:Int)*2 ^ (8*k)):=by
 induction ks with
 |nil=>rfl
 |cons p r ih=>exact(aV (f:=fun ns=>some (_::ns)) ih)
theorem NG(b:List UInt8):∀x∈Gg b,0<=x:=fun x hx=>by
 unfold Gg at hx;rw [List.mem_map] at hx;obtain⟨k,_,rfl⟩:=hx;exact Int.mul_nonneg (Int.natCast_nonneg _) (Int.le_of_lt (Int.pow_pos (by decide)))
theorem iH{b:List UInt8}(hk:b.length<=8)(hz:numOf b<2 ^ 62)(m:MH):∃m',gO.1 [.bytes b] m=some (.int (numOf b),m')/\Ext m m':=by
 dsimp only [gO];generalize hC:jg _ _ _ _ _ _=C;have hc:C [some (.bytes b)] m=some (.obj m.n,m.new (.list ((List.range b.length).map fun k=>MV.int (((b.getD k 0).toNat:Int)*2 ^ (8*k))))):=by
  rw [<- hC];have he:enumSrc (.bytes b) m=some (⟨fun O=>some b.length,fun k O=>b[k]?.map fun c=> .tup [.int (k:Int),.int (c.toNat:Int)]⟩,m):=rfl;refine kH (n:=b.length) (m1:=m) (fun fr=>∃o1 o2,fr= [o1,o2]) (by lcg_sub) rfl (by exact lk hk) ⟨_,_,rfl⟩ (fun p hp=> ?_);have hb:b[p]? =some (b.getD p 0):=by rw [pj,iq hp];rfl
  refine⟨.tup [.int (p:Int),.int ((b.getD p 0).toNat:Int)],by show Option.map _ (b[p]?)=_;rw [hb];rfl, ?_⟩;rintro fr ⟨o1,o2,rfl⟩;have h1:BZ (.int 8) (.int p) m=some (.int (8*p),m):=vI (.inl (by decide));have ke:(b.getD p 0).toNat<256:=(b.getD p 0).toNat_lt;have h2:M5 (.int ((b.getD p 0).toNat:Int)) (.int (8*p)) m=some (.int (((b.getD p 0).toNat:Int)*2 ^ (8*p)),m):=by
   rw [NF ⟨by exact Wv,by exact WM hk hp,by exact WN ke⟩]
   congr 4
  exact⟨[some (.int p),some (.int ((b.getD p 0).toNat:Int))],rfl,⟨_,_,rfl⟩,rfl,by lcg_sub⟩
 clear hC;have hS:Jz (.obj m.n) (m.new (.list ((List.range b.length).map fun k=>MV.int (((b.getD k 0).toNat:Int)*2 ^ (8*k)))))=some (.int (numOf b),m.new (.list ((List.range b.length).map fun k=>MV.int (((b.getD k 0).toNat:Int)*2 ^ (8*k))))):=by
  exact(cC (bc _ _)).trans ((aV (IE b _)).trans (if_pos ⟨NG b,hz⟩))
 exact⟨_,lb [some (.bytes b)] (eN rfl) rfl (by lcg_sub),Ext.new _ _⟩
end
section
variable {n:Int}{k:Nat}
theorem aw(n:Int)(k:Nat):(bP k n).length=k:=by unfold bP;simp
theorem IF{p:Nat}(h:p<k):(((bP k n).getD p 0).toNat:Int)=(n.fdiv (2 ^ (8*p))).fmod 256:=by
 unfold bP;rw [pj,ja,List.getElem?_range h];obtain⟨h1,h2⟩:=xA (n.fdiv (2 ^ (8*p)));simp only [Option.map_some,Option.getD_some];obtain⟨x,hx⟩:∃x:Nat,(n.fdiv (2 ^ (8*p))).fmod 256=x:=⟨((n.fdiv (2 ^ (8*p))).fmod 256).toNat,by exact Pn h1⟩;rw [hx] at h1 h2 ⊢;rw [l9];have:(x.toUInt8).toNat=x:=by
  have hx2:x<256:=by exact ZT h2
  have:(UInt8.ofNat x).toNat=x % 256:=UInt8.toNat_ofNat';exact this.trans (Nat.mod_eq_of_lt hx2)
 rw [this]
theorem Cf(n:Nat):∀k,((List.range k).map fun p=>(((n:Int).fdiv (2 ^ (8*p))).fmod 256)*2 ^ (8*p)).sum=((n % 256 ^ k:Nat):Int)
 |0=>by simp [Nat.mod_one]
 |k+1=>by
  rw [List.range_succ,jb,List.sum_append,Cf n k];simp only [List.map_cons,List.map_nil,List.sum_cons,List.sum_nil,Int.add_zero];have e1:((n:Int).fdiv (2 ^ (8*k))).fmod 256=((n/256 ^ k % 256:Nat):Int):=by
   have h2:(2:Int) ^ (8*k)=((256 ^ k:Nat):Int):=by rw [Int.pow_mul];push_cast;rfl
   rw [h2,Int.fdiv_eq_ediv_of_nonneg _ (Int.natCast_nonneg _),Int.fmod_eq_emod_of_nonneg _ (by decide)]
   push_cast;rfl
  have h2:(2:Int) ^ (8*k)=((256 ^ k:Nat):Int):=by rw [Int.pow_mul];push_cast;rfl
  rw [e1,h2,Nat.pow_succ,Nat.mod_mul]
  push_cast
  rw [Int.mul_comm ((n:Int)/256 ^ k % 256)]
theorem fz(h0:0<=n)(h1:n<256 ^ k):numOf (bP k n)=n:=by
 obtain⟨x,rfl⟩:∃x:Nat,n=x:=⟨n.toNat,by exact Pn h0⟩;have h:Gg (bP k x)=(List.range k).map fun p=>(((x:Int).fdiv (2 ^ (8*p))).fmod 256)*2 ^ (8*p):=by
  unfold Gg;rw [aw];refine List.map_congr_left fun p hp=> ?_;rw [IF (List.mem_range.mp hp)]
 unfold numOf;rw [h,Cf,Nat.mod_eq_of_lt (by exact_mod_cast h1)]
end
section
theorem ints_map(f:Nat->Int)(ks:List Nat):intsOf (ks.map fun k=>MV.int (f k))=some (ks.map f):=by
 induction ks with
 |nil=>rfl
 |cons p r ih=>exact(aV (f:=fun ns=>some (_::ns)) ih)
theorem Ak(f:Nat->Bool)(ks:List Nat):boolsOf (ks.map fun k=>MV.bool (f k))=some (ks.map f):=by
 induction ks with
 |nil=>rfl
 |cons p r ih=>exact(aV (f:=fun ns=>some (_::ns)) ih)
theorem range_getD{α β:Type}(l:List α)(d:α)(f:α->β):(List.range l.length).map (fun k=>f (l.getD k d))=l.map f:=by
 refine List.ext_getElem? fun i=> ?_;rw [ja,ja]
 by_cases h:i<l.length
 ·rw [List.getElem?_range h,iq h];simp [List.getD_eq_getElem?_getD,List.getElem?_eq_getElem h]
 ·rw [List.getElem?_eq_none (by simp;exact T9 h),List.getElem?_eq_none (by exact T9 h)];rfl
theorem vL{l:List Nat}(hx:∀c∈l,32<=c/\c<127)(hl:l.length<=100)(m:MH):∃m',my.1 [.str ⟨l.toArray⟩] m=some (.bytes (l.map fun c=>c.toUInt8),m')/\Ext m m':=by
 have yW:∀k,k<l.length->32<=l.getD k 0/\l.getD k 0<127:=fun k hk=>by
  rw [pj,iq hk];exact hx _ (List.getElem_mem hk)
 dsimp only [my];generalize hC:jg _ _ _ _ _ _=C;generalize hD:jg _ _ _ _ _ _=D;obtain⟨m1,yq⟩:∃m1,m1=m.new (.list ((List.range l.length).map fun k=>MV.int ((l.getD k 0:Nat):Int))):=⟨_,rfl⟩;have a1:m1.ob m.n= .list ((List.range l.length).map fun k=>MV.int ((l.getD k 0:Nat):Int)):=by rw [yq];exact bc _ _
 have n1:m1.n=m.n+1:=by rw [yq];rfl
 have hc:C [some (.str ⟨l.toArray⟩),none] m=some (.obj m.n,m1):=by
  rw [<- hC,yq];have hlen:(srcOf (.str ⟨l.toArray⟩)).len m=some l.length:=by
   refine(if_pos ?_).trans (congrArg some (by simp))
   ·rw [Array.all_eq_true'];intro c hc;have:=hx c (by simpa using hc);simp;exact acd this
  refine kH (n:=l.length) (m1:=m) (fun fr=>∃o,fr= [o]) (by lcg_sub) hlen (by exact lk hl) ⟨_,rfl⟩ (fun p hp=> ?_);refine⟨.str ⟨#[l.getD p 0]⟩, ?_, ?_⟩
  ·show Option.map _ _=_;rw [List.getElem?_toArray,iq hp,pj,iq hp];rfl
  rintro fr ⟨o,rfl⟩;have h1:Nh (.str ⟨#[l.getD p 0]⟩) m=some (.int ((l.getD p 0:Nat):Int),m):=rfl;exact⟨[some (.str ⟨#[l.getD p 0]⟩)],rfl,⟨_,rfl⟩,rfl,by lcg_sub⟩
 clear hC;obtain⟨m2,rF⟩:∃m2,m2=m1.new (.list ((List.range l.length).map fun k=>MV.bool true)):=⟨_,rfl⟩;have a2:m2.ob m1.n= .list ((List.range l.length).map fun k=>MV.bool true):=by rw [rF];exact bc _ _
 have a3:m2.ob m.n= .list ((List.range l.length).map fun k=>MV.int ((l.getD k 0:Nat):Int)):=by rw [rF,cU (by rw [n1];exact Cy)];exact a1
 have hd:D [some (.str ⟨l.toArray⟩),some (.obj m.n)] m1=some (.obj m1.n,m2):=by
  rw [<- hD,rF];have hlen:(srcOf (.obj m.n)).len m1=some l.length:=by rw [ze a1];simp
  refine kH (n:=l.length) (m1:=m1) (fun fr=>∃o,fr= [o]) (by lcg_sub) hlen (by exact lk hl) ⟨_,rfl⟩ (fun p hp=> ?_);refine⟨.int ((l.getD p 0:Nat):Int), ?_, ?_⟩
  ·rw [sY a1];rw [ja,List.getElem?_range hp];rfl
  rintro fr ⟨o,rfl⟩;obtain⟨q1,q2⟩:=yW p hp;have h1:kY (fun a b=>decide (a<=b)) (.int 32) (.int ((l.getD p 0:Nat):Int)) m1=some (true,m1):=by rw [gG,decide_eq_true (by exact R6 q1)]
  have h2:kY (fun a b=>decide (a<b)) (.int ((l.getD p 0:Nat):Int)) (.int 127) m1=some (true,m1):=by rw [gG,decide_eq_true (by exact R7 q2)]
  exact⟨[some (.int ((l.getD p 0:Nat):Int))],rfl,⟨_,rfl⟩,rfl,by lcg_sub⟩
 clear hD;have hA:JG (.obj m1.n) m2=some (.bool true,m2):=by
  refine(cC a2).trans ((aV (Ak _ _)).trans ?_)
  congr 3
  rw [List.all_eq_true];intro b hb;rw [List.mem_map] at hb;obtain⟨_,_,rfl⟩:=hb
  rfl
 have hB:oU (.obj m.n) m2=some (.bytes (l.map fun c=>c.toUInt8),m2):=by
  show qe m2 (m2.ob m.n)=_;rw [a3];refine(aV (ints_map _ _)).trans ?_;have hr:∀n∈(List.range l.length).map (fun k=>((l.getD k 0:Nat):Int)),0<=n/\n<256:=fun n hn=>by
   rw [List.mem_map] at hn;obtain⟨k,hk,rfl⟩:=hn;have:=yW k (List.mem_range.mp hk);exact ace this
  rw [if_pos ⟨by rw [eW,List.length_range];exact Wt hl,hr⟩]
  congr 3
  unfold Fy;rw [List.map_map];exact range_getD l 0 fun c=>c.toUInt8
 have hE:u_ (.bool true) m2=some (true,m2):=rfl;refine⟨m2,lb [some (.str ⟨l.toArray⟩),none] (eN rfl) rfl (by lcg_sub), ?_⟩;rw [rF,yq];exact(Ext.new _ _).trans (Ext.new _ _)
end
section
structure fk (j:Nat) (m m':MH):Prop where
 n:m.n<=m'.n
 ob:∀i,i<m.n->i≠j->m'.ob i=m.ob i
structure dI (m:MH) (i j:Nat) (b:List UInt8):Prop where
 a:m.ob i= .inst 142
 r:m.ob (i+1)= .dP [("octets",.obj j)]
 o:m.ob j= .ba b
 l:i+1<m.n/\j<m.n
theorem oZ{i j:Nat}{b:List UInt8}{n:Int}{k:Nat}{m:MH}(S:dI m i j b)(h0:0<=n)(h1:n<256 ^ k)(hk:k<=8)(hb:b.length<=5000):∃m',bJ.1 [.obj i,.int n,.int k] m=some (.none,m')/\fk j m m'/\m'.ob j= .ba (b++bP k n):=by
 obtain⟨m1,e1,x1⟩:=hV h0 h1 hk m;have hj1:m1.ob j= .ba b:=(x1.ob j S.l.2).trans S.o;have hG:vd [142,192,526] "octets" (.obj i) m=some (.obj j,m):=by
  exact get_eq S.a S.r (bR rfl) rfl rfl
 have hK:yk JI (.obj j) m=some ((),m):=by
  exact JM S.o
 have hX:Iu [.obj j,.bytes (bP k n)] m1=some (.none,m1.set j (.ba (b++bP k n))):=by
  exact(Ai hj1).trans (if_pos ⟨by rw [aw];exact acf hk hb,eE S.l.2 x1.n⟩)
 dsimp only [bJ];refine⟨m1.set j (.ba (b++bP k n)),sD [some (.obj i),some (.int n),some (.int k)] (eN rfl) rfl (by lcg_sub),⟨x1.n,fun t h1 h2=> ?_⟩,fL _ _ _⟩;rw [cj h2];exact x1.ob t h1
end
section
variable {i j:Nat}{m m':MH}{b:List UInt8}
theorem fk.of(x:Ext m m'):fk j m m':=⟨x.n,fun i h O=>x.ob i h⟩
theorem fk.trans{a b c:MH}(x:fk j a b)(y:fk j b c):fk j a c:=⟨jc x.n y.n,fun i h q=>(y.ob i (eE h x.n) q).trans (x.ob i h q)⟩
theorem dI.ne(S:dI m i j b):i≠j/\i+1≠j:=by
 refine⟨fun q=> ?_,fun q=> ?_⟩
 ·have:=S.a;rw [q,S.o] at this;cases this
 ·have:=S.r;rw [q,S.o] at this;cases this
theorem dI.keep{b':List UInt8}(S:dI m i j b)(x:fk j m m')(o:m'.ob j= .ba b'):dI m' i j b':=
 ⟨(x.ob _ (by have:=S.l;exact TH this) S.ne.1).trans S.a,(x.ob _ S.l.1 S.ne.2).trans S.r,o,⟨eE S.l.1 x.n,eE S.l.2 x.n⟩⟩
section
variable {i j:Nat}{b:List UInt8}{m:MH}
theorem dI.get(S:dI m i j b):vd [142,192,526] "octets" (.obj i) m=some (.obj j,m):=by
 exact get_eq S.a S.r (bR rfl) rfl rfl
theorem dI.yk(S:dI m i j b):Mine.yk JI (.obj j) m=some ((),m):=by
 exact JM S.o
theorem dI.ext(S:dI m i j b){x:List UInt8}(h:b.length+x.length<=100000):Iu [.obj j,.bytes x] m=some (.none,m.set j (.ba (b++x))):=by
 exact(Ai S.o).trans (if_pos ⟨h,S.l.2⟩)
theorem dI.xB(S:dI m i j b){F:List MV->MM MV}{k:Str}(hk:("octets":Str)≠k):qB k [(142,F)] (.obj i) m=some (F,m):=by
 have:ly k [("octets",MV.obj j)]=none:=by
  exact if_neg hk
 exact vH S.a S.r this
theorem yr{l:List Nat}(S:dI m i j b)(hx:∀c∈l,32<=c/\c<127)(hl:l.length<=100)(hb:b.length<=4000):
  ∃m',pJ.1 [.obj i,.str ⟨l.toArray⟩] m=some (.none,m')/\fk j m m'/\m'.ob j= .ba (b++bP 1 l.length++l.map fun c=>c.toUInt8):=by
 obtain⟨m1,e1,x1⟩:=vL hx hl m;have S1:=S.keep (.of x1) ((x1.ob j S.l.2).trans S.o);obtain⟨m2,e2,x2,o2⟩:=oZ (n:=(l.length:Int)) (k:=1) S1 (by exact O2) (by exact RR hl) (bR rfl) (by exact lk hb);have S2:=S1.keep x2 o2;have e2':bJ.1 [.obj i,.int l.length,.int 1] m1=some (.none,m2):=e2;have hL:vz [.bytes (l.map fun c=>c.toUInt8)] m1=some (.int l.length,m1):=by
  exact(if_pos (by rw [eW];exact Wt hl)).trans (by rw [eW])
 have hD:=S1.xB (F:=bJ.1) (k:="number") (bR rfl);have hG:=S2.get;have hK:=S2.yk;have hX:=S2.ext (x:=l.map fun c=>c.toUInt8) (by rw [ir,aw,eW];exact ZZ hl hb);dsimp only [pJ];refine⟨m2.set j (.ba (b++bP 1 l.length++l.map fun c=>c.toUInt8)),sD [some (.obj i),some (.str ⟨l.toArray⟩),none] (eN rfl) rfl (by lcg_sub), ?_,fL _ _ _⟩;exact(fk.of x1).trans (x2.trans ⟨dU _,fun t O q=>cj q⟩)
theorem wO(S:dI m i j b)(hb:b.length<=100000):nX.1 [.obj i] m=some (.bytes b,m):=by
 have hG:=S.get;have hB:oU (.obj j) m=some (.bytes b,m):=by
  show qe m (m.ob j)=_;rw [S.o];exact if_pos hb
 dsimp only [nX];exact lb [some (.obj i)] (eN rfl) rfl (by lcg_sub)
end
end
section
structure fw (m:MH) (i:Nat) (b:List UInt8) (k:Nat):Prop where
 a:m.ob i= .inst 192
 r:m.ob (i+1)= .dP [("octets",.bytes b),("at",.int (k:Int))]
 l:i+1<m.n
section
variable {i k:Nat}{b:List UInt8}{m:MH}
theorem fw.octets(S:fw m i b k):vd [142,192,526] "octets" (.obj i) m=some (.bytes b,m):=by
 exact get_eq S.a S.r (by decide) rfl rfl
theorem fw.at(S:fw m i b k):vd [192] "at" (.obj i) m=some (.int (k:Int),m):=by
 exact get_eq S.a S.r (by decide) rfl rfl
theorem fw.xB(S:fw m i b k){F:List MV->MM MV}{x:Str}(h1:("octets":Str)≠x)(h2:("at":Str)≠x):qB x [(192,F)] (.obj i) m=some (F,m):=by
 have:ly x [("octets",MV.bytes b),("at",MV.int (k:Int))]=none:=(if_neg h1).trans (if_neg h2);exact vH S.a S.r this
theorem vM(S:fw m i b k)(hb:b.length<=100000):j8.1 [.obj i] m=some (.int ((b.length:Int)-k),m):=by
 have h1:=S.octets;have h2:=S.at;have h3:vz [.bytes b] m=some (.int b.length,m):=if_pos hb;dsimp only [j8];exact lb [some (.obj i)] (eN rfl) rfl (by lcg_sub)
theorem o_(S:fw m i b k){n:Nat}(hn:k+n<=b.length)(hb:b.length<=1000):
  ∃m',gv.1 [.obj i,.int (n:Int)] m=some (.bytes ((b.drop k).take n),m')/\fk (i+1) m m'/\fw m' i b (k+n):=by
 have h1:=S.octets;have h2:=S.at;have h3:=S.xB (F:=j8.1) (x:="left") (by decide) (by decide);have h4:=vM S (by exact lk hb);have h5:kY (fun a b=>decide (a>b)) (.int (n:Int)) (.int ((b.length:Int)-k)) m=some (false,m):=by rw [gG,decide_eq_false (by exact aan hn)]
 have h6:t_ (.bytes b) (.int (k:Int)) (.int ((k:Int)+n)) m=some (.bytes ((b.drop k).take n),m):=by
  have:c8 b (some (k:Int)) (some ((k:Int)+n))=(b.drop k).take n:=by
   have:=tc b (a:=k) (c:=k+n) (by exact aao);rw [show k+n-k=n by exact aap] at this;exact this
  exact(if_pos (by exact lk hb)).trans (by rw [this])
 have h7:oU (.bytes ((b.drop k).take n)) m=some (.bytes ((b.drop k).take n),m):=rfl;have h8:p8 [192] "at" (.obj i) (.int ((k:Int)+n)) m=some ((),m.set (i+1) (.dP [("octets",.bytes b),("at",.int ((k:Int)+n))])):=by
  exact la S.a S.r (by decide) (by have:=S.l;exact O3 this) (iZ rfl)
 dsimp only [gv];refine⟨m.set (i+1) (.dP [("octets",.bytes b),("at",.int ((k:Int)+n))]),lb [some (.obj i),some (.int (n:Int)),none] (eN rfl) rfl (by lcg_sub),⟨dU _,fun t O q=>cj q⟩,⟨?_, ?_,S.l⟩⟩
 ·exact(cj (by exact O8)).trans S.a
 ·exact fL _ _ _
end
end
section
section
variable {i k:Nat}{b:List UInt8}{m:MH}
theorem fw.keep{m':MH}(S:fw m i b k)(x:Ext m m'):fw m' i b k:=
 ⟨(x.ob _ (by have:=S.l;exact O3 this)).trans S.a,(x.ob _ S.l).trans S.r,eE S.l x.n⟩
theorem mW(S:fw m i b k){n:Nat}(hn:k+n<=b.length)(hb:b.length<=1000)(h8:n<=8)(hz:numOf ((b.drop k).take n)<2 ^ 62):
  ∃m',bq.1 [.obj i,.int (n:Int)] m=some (.int (numOf ((b.drop k).take n)),m')/\fk (i+1) m m'/\fw m' i b (k+n):=by
 obtain⟨m1,e1,x1,S1⟩:=o_ S hn hb;obtain⟨m2,e2,x2⟩:=iH (b:=(b.drop k).take n) (by rw [ig];exact ab7 h8) hz m1;have h3:=S.xB (F:=gv.1) (x:="take") (bR rfl) (bR rfl);dsimp only [bq];exact⟨m2,lb [some (.obj i),some (.int (n:Int))] (eN rfl) rfl (by lcg_sub),x1.trans (.of x2),S1.keep x2⟩
end
end
section
variable {l:List Nat}
theorem strs_map(f:Nat->Str)(ks:List Nat):strsOf (ks.map fun k=>MV.str (f k))=some (ks.map f):=by
 induction ks with
 |nil=>rfl
 |cons p r ih=>exact(aV (f:=fun ns=>some (_::ns)) ih)
theorem NH{a b:Str}(h:a.cps.toList=b.cps.toList):a=b:=by
 obtain⟨x⟩:=a;obtain⟨y⟩:=b;simp only at h;rw [Array.toList_inj.mp h]
theorem xC:∀l:List Nat,Str.join ⟨#[]⟩ (l.map fun c=>(⟨#[c]⟩:Str))=⟨l.toArray⟩
 | []=>rfl
 | [c]=>rfl
 |c::d::r=>by
  have ih:=xC (d::r);show(⟨#[c]⟩:Str)++⟨#[]⟩++Str.join ⟨#[]⟩ ((d::r).map fun c=>(⟨#[c]⟩:Str))=_;rw [ih];apply NH;show((#[c]++ #[])++(d::r).toArray).toList=_;simp
theorem joinOk_signs(h:l.length<=100):JoinOk ⟨#[]⟩ (l.map fun c=>(⟨#[c]⟩:Str))=true:=by
 have key:∀(l:List Nat) (a:Nat),(l.map fun c=>(⟨#[c]⟩:Str)).foldl (fun x y=>x+y.length+(⟨#[]⟩:Str).length) a=a+l.length:=by
  intro l
  induction l with
  |nil=>intro a;rfl
  |cons c r ih=>
   intro a;rw [List.map_cons,List.foldl_cons,ih];exact ab8
 unfold JoinOk;rw [List.foldl_toArray,key];have:Builtin.Str.tooLong (0+l.length)=false:=by
  unfold Builtin.Str.tooLong;rw [sizeLine_eq];exact decide_eq_false (by exact ab9 h)
 rw [this];rfl
theorem vN(hx:∀c∈l,32<=c/\c<127)(hl:l.length<=100)(m:MH):∃m',mC.1 [.bytes (l.map fun c=>c.toUInt8)] m=some (.str ⟨l.toArray⟩,m')/\Ext m m':=by
 have yW:∀k,k<l.length->32<=l.getD k 0/\l.getD k 0<127:=fun k hk=>by
  rw [pj,iq hk];exact hx _ (List.getElem_mem hk)
 have hit:∀(m:MH) p,p<l.length->(srcOf (.bytes (l.map fun c=>c.toUInt8))).item p m=some (.int ((l.getD p 0:Nat):Int)):=fun m p hp=>by
  have ke:=yW p hp;show Option.map _ _=_;rw [ja,iq hp];rw [pj,iq hp] at ke ⊢;simp only [Option.map_some,Option.getD_some] at ke ⊢;have h9:(UInt8.ofNat l[p]).toNat=l[p] % 256:=UInt8.toNat_ofNat';have:(l[p].toUInt8).toNat=l[p]:=h9.trans (Nat.mod_eq_of_lt (by exact ab_ hp ke h9));rw [this]
 have hlen:∀m,(srcOf (.bytes (l.map fun c=>c.toUInt8))).len m=some l.length:=fun m=>congrArg some (eW ..);dsimp only [mC];generalize hD:jg _ _ _ _ _ _=D;generalize hC:jg _ _ _ _ _ _=C;obtain⟨m1,yq⟩:∃m1,m1=m.new (.list ((List.range l.length).map fun k=>MV.bool true)):=⟨_,rfl⟩;have a1:m1.ob m.n= .list ((List.range l.length).map fun k=>MV.bool true):=by rw [yq];exact bc _ _
 have hd:D [some (.bytes (l.map fun c=>c.toUInt8))] m=some (.obj m.n,m1):=by
  rw [<- hD,yq];refine kH (n:=l.length) (m1:=m) (fun fr=>∃o,fr= [o]) (by lcg_sub) (hlen m) (by exact lk hl) ⟨_,rfl⟩ (fun p hp=> ?_);refine⟨_,hit m p hp, ?_⟩;rintro fr ⟨o,rfl⟩;obtain⟨q1,q2⟩:=yW p hp;have h1:kY (fun a b=>decide (a<=b)) (.int 32) (.int ((l.getD p 0:Nat):Int)) m=some (true,m):=by rw [gG,decide_eq_true (by exact R6 q1)]
  have h2:kY (fun a b=>decide (a<b)) (.int ((l.getD p 0:Nat):Int)) (.int 127) m=some (true,m):=by rw [gG,decide_eq_true (by exact R7 q2)]
  exact⟨[some (.int ((l.getD p 0:Nat):Int))],rfl,⟨_,rfl⟩,rfl,by lcg_sub⟩
 clear hD;have hA:JG (.obj m.n) m1=some (.bool true,m1):=by
  refine(cC a1).trans ((aV (Ak _ _)).trans ?_)
  congr 3
  rw [List.all_eq_true];intro b hb;rw [List.mem_map] at hb;obtain⟨_,_,rfl⟩:=hb
  rfl
 have hE:u_ (.bool true) m1=some (true,m1):=rfl;obtain⟨m2,rF⟩:∃m2,m2=m1.new (.list ((List.range l.length).map fun k=>MV.str ⟨#[l.getD k 0]⟩)):=⟨_,rfl⟩;have a2:m2.ob m1.n= .list ((List.range l.length).map fun k=>MV.str ⟨#[l.getD k 0]⟩):=by rw [rF];exact bc _ _
 have hc:C [some (.bytes (l.map fun c=>c.toUInt8))] m1=some (.obj m1.n,m2):=by
  rw [<- hC,rF];refine kH (n:=l.length) (m1:=m1) (fun fr=>∃o,fr= [o]) (by lcg_sub) (hlen m1) (by exact lk hl) ⟨_,rfl⟩ (fun p hp=> ?_);refine⟨_,hit m1 p hp, ?_⟩;rintro fr ⟨o,rfl⟩;obtain⟨q1,q2⟩:=yW p hp;have h1:SD (.int ((l.getD p 0:Nat):Int)) m1=some (.str ⟨#[l.getD p 0]⟩,m1):=by
   exact(if_pos ⟨by exact aca q1,by exact acb q2⟩).trans (by rw [l9])
  exact⟨[some (.int ((l.getD p 0:Nat):Int))],rfl,⟨_,rfl⟩,rfl,by lcg_sub⟩
 clear hC;have hk:yk isStr (.str (Str.ofString "")) m1=some ((),m1):=rfl;have hJ:Nu [.str (Str.ofString ""),.obj m1.n] m2=some (.str ⟨l.toArray⟩,m2):=by
  have e0:Str.ofString ""=⟨#[]⟩:=by decide
  rw [e0];show(if(⟨#[]⟩:Str)=⟨#[]⟩ then(m2.ob m1.n).gR.bind _ else none)=_;refine(if_pos rfl).trans ?_;refine(cC a2).trans ?_;refine(aV (strs_map (fun k=>(⟨#[l.getD k 0]⟩:Str)) _)).trans ?_;rw [range_getD l 0 fun c=>(⟨#[c]⟩:Str)];refine(if_pos (joinOk_signs hl)).trans ?_;show some (MV.str (Builtin.Str.glued ⟨#[]⟩ _),m2)=_;rw [StrLaws.glued_eq_join,xC]
 refine⟨m2,lb [some (.bytes (l.map fun c=>c.toUInt8))] (eN rfl) rfl (by lcg_sub), ?_⟩;rw [rF,yq];exact(Ext.new _ _).trans (Ext.new _ _)
end
section
section
variable {i k:Nat}{b:List UInt8}{m:MH}
theorem vO(S:fw m i b k){l:List Nat}{r:List UInt8}(hd:b.drop k=bP 1 l.length++(l.map fun c=>c.toUInt8)++r)(hx:∀c∈l,32<=c/\c<127)(hl:l.length<=100)(hb:b.length<=1000):
  ∃m',mF.1 [.obj i] m=some (.str ⟨l.toArray⟩,m')/\fk (i+1) m m'/\fw m' i b (k+1+l.length):=by
 have hlen:b.length-k=1+l.length+r.length:=by
  rw [<- List.length_drop,hd];simp [aw];exact aaD
 have hkb:k<=b.length:=by
  rcases Nat.lt_or_ge b.length k with h|h
  ·rw [List.drop_eq_nil_of_le (by exact TU h)] at hd;have:=congrArg List.length hd;simp [aw] at this;exact aaE this
  ·exact h
 have t1:(b.drop k).take 1=bP 1 l.length:=by
  rw [hd,List.append_assoc,List.take_append_of_le_length (by rw [aw];exact Pf),qV (by rw [aw];exact Pf)]
 have t2:(b.drop (k+1)).take l.length=l.map fun c=>c.toUInt8:=by
  rw [<- List.drop_drop,hd,List.append_assoc,List.drop_append_of_le_length (by rw [aw];exact Pf),List.drop_of_length_le (by rw [aw];exact Pf),List.nil_append,
   List.take_append_of_le_length (by rw [eW];exact Kf),qV (by rw [eW];exact Kf)]
 have hn:numOf ((b.drop k).take 1)=l.length:=by rw [t1];exact fz (by exact O2) (by exact RR hl)
 obtain⟨m1,e1,x1,S1⟩:=mW S (n:=1) (by exact aaF hlen hkb) hb (bR rfl) (by rw [hn];exact aaG hl);rw [hn] at e1;obtain⟨m2,e2,x2,S2⟩:=o_ S1 (n:=l.length) (by exact aaH hlen hkb) hb;rw [t2] at e2;obtain⟨m3,e3,x3⟩:=vN hx hl m2;have h1:=S.xB (F:=gv.1) (x:="take") (bR rfl) (bR rfl);have h2:=S.xB (F:=bq.1) (x:="number") (bR rfl) (bR rfl);have e1':bq.1 [.obj i,.int 1] m=some (.int (l.length:Int),m1):=e1;dsimp only [mF];exact⟨m3,lb [some (.obj i)] (eN rfl) rfl (by lcg_sub),(x1.trans x2).trans (.of x3),S2.keep x3⟩
end
end
section
theorem sE{C:Addr}{ci:List MV->MM MV}{xs:List MV}{m m':MH}(h:ci (.obj m.n::xs) ((m.new (.inst C)).new (.dP []))=some (.none,m')):Js C ci xs m=some (.obj m.n,m'):=by
 exact aV h
theorem IG(m:MH):∃m',FW.1 [] m=some (.obj m.n,m')/\Ext m m'/\dI m' m.n (m.n+2) []:=by
 obtain⟨m0,h0⟩:∃m0,m0=(m.new (.inst 142)).new (.dP []):=⟨_,rfl⟩;have n0:m0.n=m.n+2:=by rw [h0];rfl
 obtain⟨m1,h1⟩:∃m1,m1=m0.new (.ba []):=⟨_,rfl⟩;have hB:mBa [] m0=some (.obj m0.n,m1):=by rw [h1];rfl
 have a0:m1.ob m.n= .inst 142:=by
  rw [h1,cU (by exact EA n0),h0,cU (by rw [eu];exact Cy)];exact bc _ _
 have r0:m1.ob (m.n+1)= .dP []:=by
  rw [h1,cU (by exact Pk n0),h0];exact bc (m.new (.inst 142)) _
 have hS:p8 [142,192,526] "octets" (.obj m.n) (.obj m0.n) m1=some ((),m1.set (m.n+1) (.dP [("octets",.obj m0.n)])):=by
  have hn:m1.n=m.n+3:=by rw [h1,eu,n0]
  exact la a0 r0 (bR rfl) (by exact ZH hn) (iZ rfl)
 have key:pI.1 [.obj m.n] m0=some (.none,m1.set (m.n+1) (.dP [("octets",.obj m0.n)])):=by
  dsimp only [pI];exact sD [some (.obj m.n)] (eN rfl) rfl (by lcg_sub)
 refine⟨_,sE (by rw [<- h0];exact key),⟨?_,fun t ht=> ?_⟩,⟨?_, ?_, ?_, ?_⟩⟩
 ·show m.n<=m1.n;rw [h1,eu];exact ZI n0
 ·rw [cj (by exact O1 ht),h1,cU (by exact TQ n0 ht),h0,cU (by rw [eu];exact Kb ht),cU ht]
 ·rw [cj (by exact O8)];exact a0
 ·rw [fL,n0]
 ·rw [cj (by exact EB), <- n0,h1];exact bc _ _
 ·show m.n+1<m1.n/\m.n+2<m1.n;rw [h1,eu];exact ZJ n0
end
section
theorem set_set(m:MH)(i:Nat)(a b:MO):(m.set i a).set i b=m.set i b:=by
 unfold MH.set
 congr 1
 funext j
 by_cases h:j=i <;> simp [h]
theorem DT(b:List UInt8)(m:MH):∃m',Ae.1 [.bytes b] m=some (.obj m.n,m')/\Ext m m'/\fw m' m.n b 0:=by
 obtain⟨m0,h0⟩:∃m0,m0=(m.new (.inst 192)).new (.dP []):=⟨_,rfl⟩;have n0:m0.n=m.n+2:=by rw [h0];rfl
 have a0:m0.ob m.n= .inst 192:=by rw [h0,cU (by rw [eu];exact Cy)];exact bc _ _
 have r0:m0.ob (m.n+1)= .dP []:=by rw [h0];exact bc (m.new (.inst 192)) _
 have s1:=la (cs:= [142,192,526]) (k:="octets") (x:= .bytes b) a0 r0 (by decide) (by exact EA n0) (by decide);obtain⟨m1,h1⟩:∃m1,m1=m0.set (m.n+1) (.dP [("octets",.bytes b)]):=⟨_,rfl⟩;have e1:p8 [142,192,526] "octets" (.obj m.n) (.bytes b) m0=some ((),m1):=by rw [h1];exact s1
 have a1:m1.ob m.n= .inst 192:=by rw [h1,cj (by exact O8)];exact a0
 have r1:m1.ob (m.n+1)= .dP [("octets",.bytes b)]:=by rw [h1];exact fL _ _ _
 have s2:=la (cs:= [192]) (k:="at") (x:= .int 0) a1 r1 (by simp) (by rw [h1,sy];exact EA n0) (by simp);obtain⟨m2,h2⟩:∃m2,m2=m1.set (m.n+1) (.dP [("octets",.bytes b),("at",.int 0)]):=⟨_,rfl⟩;have e2:p8 [192] "at" (.obj m.n) (.int 0) m1=some ((),m2):=by rw [h2];exact s2
 have key:mD.1 [.obj m.n,.bytes b] m0=some (.none,m2):=by
  dsimp only [mD];exact sD [some (.obj m.n),some (.bytes b),some (.int 0)] (eN rfl) rfl (by lcg_sub)
 have nn:m2.n=m.n+2:=by rw [h2,sy,h1,sy,n0]
 refine⟨m2,sE (by rw [<- h0];exact key),⟨by exact XA nn,fun t ht=> ?_⟩,⟨?_, ?_,by exact Pk nn⟩⟩
 ·rw [h2,cj (by exact O1 ht),h1,cj (by exact O1 ht),h0,cU (by rw [eu];exact Kb ht),cU ht]
 ·rw [h2,cj (by exact O8)];exact a1
 ·rw [h2];exact fL _ _ _
end
section
structure vP (m:MH) (i j:Nat) (s:Str) (g p:Int) (xs:List MV):Prop where
 a:m.ob i= .inst 227
 r:m.ob (i+1)= .dP [("sort",.str s),("guid",.int g),("children",.obj j),("parity",.int p)]
 c:m.ob j= .list xs
 l:i+1<m.n/\j<m.n
theorem rm{s:Str}{g p:Int}{ch:MV}{xs:List MV}{i:Nat}{m0:MH}(hL:∀fs,DC ch (m0.set (i+1) fs)=some (.obj m0.n,(m0.set (i+1) fs).new (.list xs)))(a0:m0.ob i= .inst 227)(r0:m0.ob (i+1)= .dP [])(hi:i+1<m0.n):
  ∃m',jT.1 [.obj i,.str s,.int g,ch,.int p] m0=some (.none,m')/\m'.n=m0.n+1/\(∀t,t<m0.n->t≠i+1->m'.ob t=m0.ob t)/\vP m' i m0.n s g p xs:=by
 obtain⟨m1,h1⟩:∃m1,m1=m0.set (i+1) (.dP [("sort",.str s)]):=⟨_,rfl⟩;have e1:p8 [227] "sort" (.obj i) (.str s) m0=some ((),m1):=by rw [h1];exact la a0 r0 (by simp) (by exact O3 hi) (by simp)
 have a1:m1.ob i= .inst 227:=by rw [h1,cj (by exact O8)];exact a0
 have r1:m1.ob (i+1)= .dP [("sort",.str s)]:=by rw [h1];exact fL _ _ _
 obtain⟨m2,h2⟩:∃m2,m2=m0.set (i+1) (.dP [("sort",.str s),("guid",.int g)]):=⟨_,rfl⟩;have e2:p8 [227,254] "guid" (.obj i) (.int g) m1=some ((),m2):=by
  rw [h2, <- set_set m0 (i+1) (.dP [("sort",.str s)]), <- h1];exact la a1 r1 (by simp) (by rw [h1,sy];exact O3 hi) (by simp)
 obtain⟨m3,h3⟩:∃m3,m3=m2.new (.list xs):=⟨_,rfl⟩;have e3:DC ch m2=some (.obj m0.n,m3):=by rw [h3,h2];exact hL _
 have n2:m2.n=m0.n:=by rw [h2,sy]
 have a3:m3.ob i= .inst 227:=by rw [h3,cU (by exact abp hi n2),h2,cj (by exact O8)];exact a0
 have r3:m3.ob (i+1)= .dP [("sort",.str s),("guid",.int g)]:=by rw [h3,cU (by exact abq hi n2),h2];exact fL _ _ _
 have n3:m3.n=m0.n+1:=by rw [h3,eu,n2]
 obtain⟨m4,h4⟩:∃m4,m4=m3.set (i+1) (.dP [("sort",.str s),("guid",.int g),("children",.obj m0.n)]):=⟨_,rfl⟩;have e4:p8 [227] "children" (.obj i) (.obj m0.n) m3=some ((),m4):=by rw [h4];exact la a3 r3 (by simp) (by exact RZ hi n3) (by simp)
 have a4:m4.ob i= .inst 227:=by rw [h4,cj (by exact O8)];exact a3
 have r4:m4.ob (i+1)= .dP [("sort",.str s),("guid",.int g),("children",.obj m0.n)]:=by rw [h4];exact fL _ _ _
 obtain⟨m5,h5⟩:∃m5,m5=m4.set (i+1) (.dP [("sort",.str s),("guid",.int g),("children",.obj m0.n),("parity",.int p)]):=⟨_,rfl⟩;have e5:p8 [227] "parity" (.obj i) (.int p) m4=some ((),m5):=by rw [h5];exact la a4 r4 (by simp) (by rw [h4,sy];exact RZ hi n3) (by simp)
 have n5:m5.n=m0.n+1:=by rw [h5,sy,h4,sy,n3]
 refine⟨m5, ?_,n5,fun t ht i6=> ?_,⟨?_, ?_, ?_,by exact abr hi n5⟩⟩
 ·dsimp only [jT];exact sD [some (.obj i),some (.str s),some (.int g),some ch,some (.int p)] (eN rfl) rfl (by lcg_sub)
 ·rw [h5,cj i6,h4,cj i6,h3,cU (by exact RW n2 ht),h2,cj i6]
 ·rw [h5,cj (by exact O8)];exact a4
 ·rw [h5];exact fL _ _ _
 ·rw [h5,cj (by exact R0 hi),h4,cj (by exact R0 hi),h3, <- n2];exact bc _ _
end
section
variable {s:Str}{g:Int}{m:MH}
theorem qN{p:Int}{c:Nat}{xs:List MV}(hc:m.ob c= .list xs)(fZ:c<m.n)(hz:xs.length<=100000):
  ∃m',nY.1 [.str s,.int g,.obj c,.int p] m=some (.obj m.n,m')/\Ext m m'/\vP m' m.n (m.n+2) s g p xs:=by
 obtain⟨m0,h0⟩:∃m0,m0=(m.new (.inst 227)).new (.dP []):=⟨_,rfl⟩;have n0:m0.n=m.n+2:=by rw [h0];rfl
 have a0:m0.ob m.n= .inst 227:=by rw [h0,cU (by rw [eu];exact Cy)];exact bc _ _
 have r0:m0.ob (m.n+1)= .dP []:=by rw [h0];exact bc (m.new (.inst 227)) _
 have o0:∀t,t<m.n->m0.ob t=m.ob t:=fun t ht=>by rw [h0,cU (by rw [eu];exact Kb ht),cU ht]
 obtain⟨m1,e1,n1,k1,S1⟩:=rm (s:=s) (g:=g) (p:=p) (ch:= .obj c) (xs:=xs) (fun fs=>by
  exact(cC ((cj (by exact O1 fZ)).trans ((o0 c fZ).trans hc))).trans (if_pos hz)) a0 r0 (by exact Pk n0)
 refine⟨m1,sE (by rw [<- h0];exact e1),⟨by exact RD n0 n1,fun t ht=> ?_⟩,n0▸S1⟩;rw [k1 t (by exact TQ n0 ht) (by exact O1 ht),o0 t ht]
theorem Gi:∃m',nY.1 [.str s,.int g] m=some (.obj m.n,m')/\Ext m m'/\vP m' m.n (m.n+2) s g 0 []:=by
 obtain⟨m0,h0⟩:∃m0,m0=(m.new (.inst 227)).new (.dP []):=⟨_,rfl⟩;have n0:m0.n=m.n+2:=by rw [h0];rfl
 have a0:m0.ob m.n= .inst 227:=by rw [h0,cU (by rw [eu];exact Cy)];exact bc _ _
 have r0:m0.ob (m.n+1)= .dP []:=by rw [h0];exact bc (m.new (.inst 227)) _
 have o0:∀t,t<m.n->m0.ob t=m.ob t:=fun t ht=>by rw [h0,cU (by rw [eu];exact Kb ht),cU ht]
 obtain⟨m1,e1,n1,k1,S1⟩:=rm (s:=s) (g:=g) (p:=0) (ch:= .tup []) (xs:= []) (fun fs=>by
  rfl) a0 r0 (by exact Pk n0)
 have e2:jT.1 [.obj m.n,.str s,.int g] m0=jT.1 [.obj m.n,.str s,.int g,.tup [],.int 0] m0:=by
  rfl
 refine⟨m1,sE (by rw [<- h0];exact e2.trans e1),⟨by exact RD n0 n1,fun t ht=> ?_⟩,n0▸S1⟩;rw [k1 t (by exact TQ n0 ht) (by exact O1 ht),o0 t ht]
end
section
def Ok{α:Type}(r:Option (α×MH))(Q:α->MH->Prop):Prop:=∃a m',r=some (a,m')/\Q a m'
def bL(r:Option (eH×av×MH))(Q:eH->av->MH->Prop):Prop:=∃f fr m',r=some (f,fr,m')/\Q f fr m'
section
variable {α β:Type}{Q Q':α->MH->Prop}{m m1 m':MH}{fr et:av}
theorem Ok.of{r:Option (α×MH)}{a:α}(h:r=some (a,m'))(q:Q a m'):Ok r Q:=⟨a,m',h,q⟩
theorem Ok.ex{r:Option (α×MH)}{v:α}{P:MH->Prop}(h:∃m',r=some (v,m')/\P m')(q:∀m',P m'->Q v m'):Ok r Q:=⟨v,h.imp fun m'=>And.imp_right (q m')⟩
theorem Ok.mono{r:Option (α×MH)}(h:Ok r Q)(q:∀a m',Q a m'->Q' a m'):Ok r Q':=h.imp fun a=>Exists.imp fun m'=>And.imp_right (q a m')
theorem Ok.k2{r:Option (α×MH)}{P1 P2:α->MH->Prop}(h:Ok r fun v m=>P1 v m/\P2 v m)(q:∀v m,P1 v m->P2 v m->Q v m):Ok r Q:=h.mono fun v m p=>q v m p.1 p.2
theorem Ok.q1{r:Option (α×MH)}{a:α}{P1:MH->Prop}(h:Ok r fun v m=>v=a/\P1 m)(q:∀m,P1 m->Q a m):Ok r Q:=h.mono fun v m p=>p.1▸q m p.2
theorem Ok.q2{r:Option (α×MH)}{a:α}{P1 P2:MH->Prop}(h:Ok r fun v m=>v=a/\P1 m/\P2 m)(q:∀m,P1 m->P2 m->Q a m):Ok r Q:=h.mono fun v m p=>p.1▸q m p.2.1 p.2.2
theorem Ok.bind{Q:β->MH->Prop}{c:MM α}{f:α->MM β}(h:Ok (c m) fun a m1=>Ok (f a m1) Q):Ok (MM.bind c f m) Q:=by
 obtain⟨a,m1,e,b,m2,e2,q⟩:=h;exact⟨b,m2,(MM.eI e).trans e2,q⟩
theorem Ok.ret{a:α}(q:Q a m):Ok (MM.ret a m) Q:=⟨a,m,rfl,q⟩
theorem Ok.bt{x y:MM α}(h:Ok (x m) Q):Ok ((cond true x y) m) Q:=h
theorem Ok.bf{x y:MM α}(h:Ok (y m) Q):Ok ((cond false x y) m) Q:=h
theorem bL.bt{x y:Option (eH×av×MH)}{Q:eH->av->MH->Prop}(h:bL x Q):bL (cond true x y) Q:=h
theorem bL.bf{x y:Option (eH×av×MH)}{Q:eH->av->MH->Prop}(h:bL y Q):bL (cond false x y) Q:=h
end
def Pu{α:Type}(c:av->MM α)(fr:av)(m:MH)(v:α):Prop:=c fr m=some (v,m)
abbrev JT{α β:Type}(f:β->MM α)(Q:α->MH->Prop)(x:β)(m:MH):Prop:=Ok (f x m) Q
abbrev aef{α:Type}(d:av->MM MV)(f:MV->MV->MM α)(fr:av)(Q:α->MH->Prop)(x:MV)(m:MH):Prop:=Ok (d fr m) (JT (f x) Q)
abbrev NI(Q:List MV->MH->Prop)(x:MV)(xs:List MV)(m:MH):Prop:=Q (x::xs) m
abbrev ACQ(cs:av->MM (List MV))(fr:av)(Q:List MV->MH->Prop)(x:MV)(m:MH):Prop:=Ok (cs fr m) (NI Q x)
abbrev SU(f:List MV->MM MV)(Q:MV->MH->Prop)(x:MV)(xs:List MV)(m:MH):Prop:=Ok (f (x::xs) m) Q
abbrev aeg(ca:av->MM (List MV))(fr:av)(Q:MV->MH->Prop)(x:MV)(F:List MV->MM MV)(m:MH):Prop:=Ok (ca fr m) (SU F Q x)
noncomputable abbrev MeQ(k:Str)(cands:List (Addr×(List MV->MM MV)))(ca:av->MM (List MV))(fr:av)(Q:MV->MH->Prop)(x:MV)(m:MH):Prop:=Ok (qB k cands x m) (aeg ca fr Q x)
abbrev aeh(f:List MV->MM MV)(ca:av->MM (List MV))(fr:av)(Q:MV->MH->Prop)(x:MV)(_:Unit)(m:MH):Prop:=Ok (ca fr m) (SU f Q x)
abbrev ChQ(P:MH->MV->Bool)(f:List MV->MM MV)(ca:av->MM (List MV))(fr:av)(Q:MV->MH->Prop)(x:MV)(m:MH):Prop:=Ok (Mine.yk P x m) (aeh f ca fr Q x)
abbrev aei(ch:av->MM MV)(fr:av)(Q:MV->MH->Prop)(v x:MV)(m:MH):Prop:=Ok (ch fr m) (JT (t_ v x) Q)
abbrev CuQ(cl ch:av->MM MV)(fr:av)(Q:MV->MH->Prop)(v:MV)(m:MH):Prop:=Ok (cl fr m) (aei ch fr Q v)
abbrev NJ{α:Type}(c d:av->MM α)(fr:av)(Q:α->MH->Prop)(b:Bool)(m:MH):Prop:=Ok ((bif b then c fr else d fr) m) Q
section
variable {α β:Type}{fr:av}{m:MH}{b:Bool}{x y v:MV}{xs:List MV}
theorem Ok.pu{Q:α->MH->Prop}{c:av->MM α}{v:α}(h:Pu c fr m v)(q:Q v m):Ok (c fr m) Q:=⟨v,m,h,q⟩
theorem Pu.k{a:α}:Pu (Kc a) fr m a:=Eq.refl (some (a,m))
theorem Pu.rd{i:Nat}(h:slot fr i=some v):Pu (Rd i) fr m v:=IC h
theorem Pu.ac{c:av->MM MV}{cs:av->MM (List MV)}(h:Pu c fr m x)(k:Pu cs fr m xs):Pu (AC c cs) fr m (x::xs):=ID h k
theorem Pu.add{c d:av->MM MV}{x y:Int}(h:Pu c fr m (.int x))(k:Pu d fr m (.int y)):Pu (tC c d zO) fr m (.int (x+y)):=(qL h k).trans rfl
theorem Pu.sub{c d:av->MM MV}{x y:Int}(h:Pu c fr m (.int x))(k:Pu d fr m (.int y)):Pu (tC c d Ju) fr m (.int (x-y)):=(qL h k).trans rfl
theorem Pu.mod{c d:av->MM MV}{x y:Int}(h:Pu c fr m (.int x))(k:Pu d fr m (.int y))(p:y≠0):Pu (tC c d Jv) fr m (.int (x.fmod y)):=(qL h k).trans (Ga p)
theorem Pu.fdiv{c d:av->MM MV}{x y:Int}(h:Pu c fr m (.int x))(k:Pu d fr m (.int y))(p:y≠0/\y.natAbs<2 ^ 64):Pu (tC c d Dp) fr m (.int (x.fdiv y)):=(qL h k).trans (Ce p)
theorem Pu.mul{c d:av->MM MV}{x y:Int}(h:Pu c fr m (.int x))(k:Pu d fr m (.int y))(p:x.natAbs<2 ^ 64\/y.natAbs<2 ^ 64):Pu (tC c d BZ) fr m (.int (x*y)):=(qL h k).trans (vI p)
theorem Pu.get{c:av->MM MV}{i:Nat}{C:Addr}{cs:List Addr}{k:Str}{fs:List (Str×MV)}(h:Pu c fr m (.obj i))(a:m.ob i= .inst C)(r:m.ob (i+1)= .dP fs)(hC:C∈cs)(hf:ly k fs=some v)(hp:v.plain=true):Pu (oG c (vd cs k)) fr m v:=
 (vJ h).trans (get_eq a r hC hf hp)
theorem Pu.tup{c:av->MM (List MV)}(h:Pu c fr m xs)(p:xs.length<=1000):Pu (oG c Mg) fr m (.tup xs):=(vJ h).trans (if_pos p)
theorem Pu.iter{c:av->MM MV}(h:Pu c fr m x):Pu (oG c rS) fr m (srcOf x):=vJ h
theorem Ok.ex1{Q:α->MH->Prop}{c:av->MM β}{f:β->MM α}(h:Ok (c fr m) (JT f Q)):Ok (oG c f fr m) Q:=by
 obtain⟨a,m1,e,b,m2,e2,q⟩:=h;exact⟨b,m2,(vJ e).trans e2,q⟩
theorem Ok.aek{Q:α->MH->Prop}{c:av->MM β}{f:β->MM α}{a:β}(h:Pu c fr m a)(q:Ok (f a m) Q):Ok (oG c f fr m) Q:=Ok.ex1 ⟨a,m,h,q⟩
theorem Ok.ex2{Q:α->MH->Prop}{c d:av->MM MV}{f:MV->MV->MM α}(h:Ok (c fr m) (aef d f fr Q)):Ok (tC c d f fr m) Q:=by
 obtain⟨a,m1,e,b,m2,e2,c,m3,e3,q⟩:=h;exact⟨c,m3,(qL e e2).trans e3,q⟩
theorem Ok.SV{Q:α->MH->Prop}{c d:av->MM MV}{f:MV->MV->MM α}(h:Pu c fr m x)(q:Ok (d fr m) (JT (f x) Q)):Ok (tC c d f fr m) Q:=Ok.ex2 ⟨x,m,h,q⟩
theorem Ok.aem{Q:α->MH->Prop}{c d:av->MM MV}{f:MV->MV->MM α}(h:Pu c fr m x)(k:Pu d fr m y)(q:Ok (f x y m) Q):Ok (tC c d f fr m) Q:=Ok.SV h ⟨y,m,k,q⟩
theorem Ok.ac{Q:List MV->MH->Prop}{c:av->MM MV}{cs:av->MM (List MV)}(h:Ok (c fr m) (ACQ cs fr Q)):Ok (AC c cs fr m) Q:=by
 obtain⟨a,m1,e,b,m2,e2,q⟩:=h;exact⟨_,m2,ID e e2,q⟩
theorem Ok.acp{Q:List MV->MH->Prop}{c:av->MM MV}{cs:av->MM (List MV)}(h:Pu c fr m x)(q:Ok (cs fr m) (NI Q x)):Ok (AC c cs fr m) Q:=Ok.ac ⟨x,m,h,q⟩
theorem Ok.me{Q:MV->MH->Prop}{k:Str}{cands:List (Addr×(List MV->MM MV))}{co:av->MM MV}{ca:av->MM (List MV)}(h:Ok (co fr m) (MeQ k cands ca fr Q)):Ok (ME k cands co ca fr m) Q:=by
 obtain⟨a,m1,e,b,m2,e2,c,m3,e3,d,m4,e4,q⟩:=h;exact⟨d,m4,(JP e e2 e3).trans e4,q⟩
theorem Ok.mep{Q:MV->MH->Prop}{k:Str}{C:Addr}{F:List MV->MM MV}{i:Nat}{fs:List (Str×MV)}{co:av->MM MV}{ca:av->MM (List MV)}(h:Pu co fr m (.obj i))(h3:Pu ca fr m xs)(a:m.ob i= .inst C)(r:m.ob (i+1)= .dP fs)(hf:ly k fs=none)
  (q:Ok (F (.obj i::xs) m) Q):Ok (ME k [(C,F)] co ca fr m) Q:=Ok.me ⟨_,m,h,F,m,vH a r hf,xs,m,h3,q⟩
theorem Ok.ch{Q:MV->MH->Prop}{P:MH->MV->Bool}{f:List MV->MM MV}{co:av->MM MV}{ca:av->MM (List MV)}(h:Ok (co fr m) (ChQ P f ca fr Q)):Ok (Qo P f co ca fr m) Q:=by
 obtain⟨a,m1,e,b,m2,e2,c,m3,e3,d,m4,e4,q⟩:=h;exact⟨d,m4,(JQ e e2 e3).trans e4,q⟩
theorem Ok.cu{Q:MV->MH->Prop}{cv cl ch:av->MM MV}(h:Ok (cv fr m) (CuQ cl ch fr Q)):Ok (Nc cv cl ch fr m) Q:=by
 obtain⟨a,m1,e,b,m2,e2,c,m3,e3,d,m4,e4,q⟩:=h;exact⟨d,m4,(JR e e2 e3).trans e4,q⟩
theorem Ok.cup{Q:MV->MH->Prop}{cv cl ch:av->MM MV}(h:Pu cv fr m v)(h2:Pu cl fr m x)(h3:Pu ch fr m y)(q:Ok (t_ v x y m) Q):Ok (Nc cv cl ch fr m) Q:=Ok.cu ⟨v,m,h,x,m,h2,y,m,h3,q⟩
theorem Ok.and{Q:Bool->MH->Prop}{c d:av->MM Bool}(h:Ok (c fr m) (NJ d (Kc false) fr Q)):Ok (Jl c d fr m) Q:=by
 obtain⟨a,m1,e,b,m2,e2,q⟩:=h;exact⟨b,m2,(Gb e).trans e2,q⟩
theorem Ok.or{Q:Bool->MH->Prop}{c d:av->MM Bool}(h:Ok (c fr m) (NJ (Kc true) d fr Q)):Ok (PH c d fr m) Q:=by
 obtain⟨a,m1,e,b,m2,e2,q⟩:=h;exact⟨b,m2,(JN e).trans e2,q⟩
theorem Ok.if{Q:MV->MH->Prop}{t:av->MM Bool}{c d:av->MM MV}(h:Ok (t fr m) (NJ c d fr Q)):Ok (PI t c d fr m) Q:=by
 obtain⟨a,m1,e,b,m2,e2,q⟩:=h;exact⟨b,m2,(JO e).trans e2,q⟩
theorem Ok.rB{Q:MV->MH->Prop}(q:Q (.bool b) m):Ok (Mine.rB b m) Q:=⟨_,m,rfl,q⟩
theorem Ok.rS{Q:Src->MH->Prop}(q:Q (srcOf x) m):Ok (Mine.rS x m) Q:=⟨_,m,rfl,q⟩
theorem Ok.rNt{Q:Bool->MH->Prop}(q:Q false m):Ok (rN true m) Q:=⟨_,m,rfl,q⟩
end
abbrev aen(k:MV->SM)(fr:av)(Q:eH->av->MH->Prop)(v:MV)(m:MH):Prop:=bL (k v fr m) Q
abbrev aeo(a b:SM)(fr:av)(Q:eH->av->MH->Prop)(v:Bool)(m:MH):Prop:=bL (cond v (a fr m) (b fr m)) Q
abbrev aep{α:Type}(fr:av)(Q:eH->av->MH->Prop)(_:α)(m:MH):Prop:=Q .next fr m
def Al(d:SM)(Q:eH->av->MH->Prop):eH->av->MH->Prop
 | .next,fr,m=>bL (d fr m) Q
 |f,fr,m=>Q f fr m
def xD(Q:MV->MH->Prop):eH->av->MH->Prop
 | .ret v,_,m=>Q v m
 | .next,_,m=>Q .none m
 |_,_,_=>False
section
variable {Q:eH->av->MH->Prop}{m m1 m':MH}{fr et:av}{c d:SM}{v:MV}
theorem Al.next(h:bL (d fr m) Q):Al d Q .next fr m:=h
theorem Al.ret(h:Q (.ret v) fr m):Al d Q (.ret v) fr m:=h
theorem xD.ret{Q:MV->MH->Prop}(h:Q v m):xD Q (.ret v) fr m:=h
theorem xD.next{Q:MV->MH->Prop}(h:Q .none m):xD Q .next fr m:=h
theorem bL.seq(h:bL (c fr m) (Al d Q)):bL (SM.seq c d fr m) Q:=by
 obtain⟨f,et,m1,e,q⟩:=h;cases f with
 |next=>
  obtain⟨f,mc,m2,e2,q⟩:=q;exact⟨f,mc,m2,(SM.JL e).trans e2,q⟩
 |brk=>exact⟨.brk,et,m1,by unfold SM.seq;rw [e],q⟩
 |cont=>exact⟨_,et,m1,SM.K4 e,q⟩
 |ret v=>exact⟨_,et,m1,SM.Gf e,q⟩
theorem bL.use{c:av->MM MV}{k:MV->SM}(h:Ok (c fr m) (aen k fr Q)):bL (SM.use c k fr m) Q:=by
 obtain⟨v,m1,e,f,mc,m2,e2,q⟩:=h;exact⟨f,mc,m2,(SM.DQ e).trans e2,q⟩
theorem bL.aeq{c:av->MM MV}{k:MV->SM}(h:Pu c fr m v)(q:bL (k v fr m) Q):bL (SM.use c k fr m) Q:= .use ⟨v,m,h,q⟩
theorem bL.test{c:av->MM Bool}{a b:SM}(h:Ok (c fr m) (aeo a b fr Q)):bL (SM.test c a b fr m) Q:=by
 obtain⟨v,m1,e,f,mc,m2,e2,q⟩:=h;exact⟨f,mc,m2,(SM.FY e).trans e2,q⟩
theorem bL.act{α:Type}{c:MM α}(h:Ok (c m) (aep fr Q)):bL (SM.act c fr m) Q:=by
 obtain⟨v,m1,e,q⟩:=h;exact⟨.next,fr,m1,SM.JS e,q⟩
theorem bL.ret{f:eH}(q:Q f fr m):bL (SM.ret f fr m) Q:=⟨f,fr,m,rfl,q⟩
theorem bL.unpack{is:List Nat}{xs:List MV}(h:xs.length=is.length)(q:Q .next (iS fr is xs) m):bL (SM.unpack is (.tup xs) fr m) Q:=⟨.next,iS fr is xs,m,if_pos h,q⟩
theorem bL.su{is:List Nat}{xs:List MV}(h:xs.length=is.length)(q:Q .next (iS fr is xs.reverse) m):bL (SM.su is (.tup xs) fr m) Q:=⟨.next,iS fr is xs.reverse,m,if_pos h,q⟩
def sF(a b:av):Prop:=a=b
theorem sF.rfl{a:av}:sF a a:=Eq.refl a
theorem Ok.dc{Q:MV->MH->Prop}{k:Nat}{dv:List MV}{r:Nat}{xs:List MV}{vg:av}(hl:xs.length<=k/\k<=xs.length+dv.length)(hf:sF ((xs++dv.drop (xs.length+dv.length-k)).map some++List.replicate r none) vg)
  (h:bL (c vg m) (xD Q)):Ok (dc k dv r c xs m) Q:=by
 obtain⟨f,et,m1,e,q⟩:=h;unfold sF at hf;subst hf;cases f with
 |next=>exact⟨.none,m1,qM hl e (.inr ⟨rfl,rfl⟩),q⟩
 |ret v=>exact⟨v,m1,qM hl e (.inl rfl),q⟩
 |brk=>exact q.elim
 |cont=>exact q.elim
end
section
variable {Q:MV->MH->Prop}{QB:Bool->MH->Prop}{QF:eH->av->MH->Prop}{m:MH}{x y:Int}
theorem Ok.SW(h:x<y)(q:QB true m):Ok (kY (fun a b=>decide (a<b)) (.int x) (.int y) m) QB:= .of (by rw [gG,decide_eq_true h]) q
theorem Ok.SX(h:¬x<y)(q:QB false m):Ok (kY (fun a b=>decide (a<b)) (.int x) (.int y) m) QB:= .of (by rw [gG,decide_eq_false h]) q
theorem Ok.SY(h:x<=y)(q:QB true m):Ok (kY (fun a b=>decide (a<=b)) (.int x) (.int y) m) QB:= .of (by rw [gG,decide_eq_true h]) q
theorem Ok.S_(h:x>y)(q:QB true m):Ok (kY (fun a b=>decide (a>b)) (.int x) (.int y) m) QB:= .of (by rw [gG,decide_eq_true h]) q
theorem Ok.Ta(h:¬x>y)(q:QB false m):Ok (kY (fun a b=>decide (a>b)) (.int x) (.int y) m) QB:= .of (by rw [gG,decide_eq_false h]) q
theorem Ok.aer(h:¬x>=y)(q:QB false m):Ok (kY (fun a b=>decide (a>=b)) (.int x) (.int y) m) QB:= .of (by rw [gG,decide_eq_false h]) q
theorem Ok.wQ(h:x=y)(q:QB true m):Ok (vA (.int x) (.int y) m) QB:= .of (a:=true) (by subst h;show some (x==x,m)=_;rw [beq_self_eq_true]) q
theorem Ok.Am(h:x≠y)(q:QB false m):Ok (vA (.int x) (.int y) m) QB:= .of (a:=false) (by show some (x==y,m)=_;rw [beq_eq_false_iff_ne.mpr h]) q
theorem Ok.Vo{x:Str}(q:QB true m):Ok (vA (.str x) (.str x) m) QB:= .of (a:=true) (by show some (x==x,m)=_;rw [beq_self_eq_true]) q
theorem Ok.NL{x y:Str}(h:(x==y)=false)(q:QB false m):Ok (vA (.str x) (.str y) m) QB:= .of (a:=false) (by show some (x==y,m)=_;rw [h]) q
theorem Ok.eqb{x y:List UInt8}(q:QB (x==y) m):Ok (vA (.bytes x) (.bytes y) m) QB:= .of rfl q
theorem Ok.asb{b:Bool}(q:QB b m):Ok (u_ (.bool b) m) QB:= .of rfl q
theorem Ok.add(q:Q (.int (x+y)) m):Ok (zO (.int x) (.int y) m) Q:= .of rfl q
theorem Ok.Gj{a b:List UInt8}(h:a.length+b.length<=100000)(q:Q (.bytes (a++b)) m):Ok (zO (.bytes a) (.bytes b) m) Q:= .of (if_pos h) q
theorem Ok.Tb{i j:Nat}{xs ys:List MV}(hi:m.ob i= .list xs)(hj:m.ob j= .list ys)(h:xs.length+ys.length<=100000)(q:Q (.obj m.n) (m.new (.list (xs++ys)))):Ok (zO (.obj i) (.obj j) m) Q:= .of ((cC hi).trans ((cC hj).trans (if_pos h))) q
theorem Ok.sub(q:Q (.int (x-y)) m):Ok (Ju (.int x) (.int y) m) Q:= .of (F0 _ _ _) q
theorem Ok.mul(h:x.natAbs<2 ^ 64\/y.natAbs<2 ^ 64)(q:Q (.int (x*y)) m):Ok (BZ (.int x) (.int y) m) Q:= .of (vI h) q
theorem Ok.fdiv(h:y≠0/\y.natAbs<2 ^ 64)(q:Q (.int (x.fdiv y)) m):Ok (Dp (.int x) (.int y) m) Q:= .of (Ce h) q
theorem Ok.mod(h:y≠0)(q:Q (.int (x.fmod y)) m):Ok (Jv (.int x) (.int y) m) Q:= .of (Ga h) q
theorem Ok.get{i:Nat}{C:Addr}{cs:List Addr}{k:Str}{fs:List (Str×MV)}{v:MV}(a:m.ob i= .inst C)(r:m.ob (i+1)= .dP fs)(hC:C∈cs)(hf:ly k fs=some v)(hp:v.plain=true)(q:Q v m):Ok (vd cs k (.obj i) m) Q:= .of (get_eq a r hC hf hp) q
theorem Ok.set{QU:Unit->MH->Prop}{i:Nat}{C:Addr}{cs:List Addr}{k:Str}{fs:List (Str×MV)}{x:MV}(a:m.ob i= .inst C)(r:m.ob (i+1)= .dP fs)(hC:C∈cs)(hi:i<m.n)(hf:fs.length<=100)(q:QU () (m.set (i+1) (.dP (vb k x fs)))):Ok (p8 cs k (.obj i) x m) QU:= .of (la a r hC hi hf) q
theorem Ok.xB{QD:(List MV->MM MV)->MH->Prop}{i:Nat}{C:Addr}{F:List MV->MM MV}{k:Str}{fs:List (Str×MV)}(a:m.ob i= .inst C)(r:m.ob (i+1)= .dP fs)(hf:ly k fs=none)(q:QD F m):Ok (qB k [(C,F)] (.obj i) m) QD:= .of (vH a r hf) q
theorem Ok.aes{QU:Unit->MH->Prop}{i:Nat}{xs:List MV}(h:m.ob i= .list xs)(q:QU () m):Ok (Mine.yk Ir (.obj i) m) QU:= .of (NB h) q
theorem Ok.xE{b:List UInt8}(h:b.length<=100000)(q:Q (.int b.length) m):Ok (vz [.bytes b] m) Q:= .of (if_pos h) q
theorem Ok.aet{b:List MV}(h:b.length<=100000)(q:Q (.int b.length) m):Ok (vz [.tup b] m) Q:= .of (if_pos h) q
theorem Ok.xF{i:Nat}{b:List MV}(o:m.ob i= .list b)(h:b.length<=100000)(q:Q (.int b.length) m):Ok (vz [.obj i] m) Q:= .of (by show uA m (m.ob i)=_;rw [o];exact if_pos h) q
theorem Ok.aeu{i:Nat}{b:List UInt8}(o:m.ob i= .ba b)(h:b.length<=100000)(q:Q (.int b.length) m):Ok (vz [.obj i] m) Q:= .of (by show uA m (m.ob i)=_;rw [o];exact if_pos h) q
theorem Ok.aev{i:Nat}{k:Nat}(o:m.ob i= .tR k)(h:k<=100000)(q:Q (.int k) m):Ok (vz [.obj i] m) Q:= .of (by show uA m (m.ob i)=_;rw [o];exact if_pos h) q
theorem Ok.app{i:Nat}{x:MV}{xs:List MV}(o:m.ob i= .list xs)(h:xs.length<=100000/\i<m.n)(q:Q .none (m.set i (.list (xs++ [x])))):Ok (FH [.obj i,x] m) Q:= .of ((cC o).trans (if_pos h)) q
theorem Ok.NN{i j:Nat}{xs ys:List MV}(o:m.ob i= .list xs)(o2:m.ob j= .list ys)(h:xs.length+ys.length<=100000/\i<m.n)(q:Q .none (m.set i (.list (xs++ys)))):Ok (FI [.obj i,.obj j] m) Q:= .of ((cC o).trans ((cC o2).trans (if_pos h))) q
theorem Ok.list{xs:List MV}(h:xs.length<=1000)(q:Q (.obj m.n) (m.new (.list xs))):Ok (Mh xs m) Q:= .of (if_pos h) q
theorem Ok.tup{xs:List MV}(h:xs.length<=1000)(q:Q (.tup xs) m):Ok (Mg xs m) Q:= .of (if_pos h) q
theorem Ok.byb{b:List UInt8}(q:Q (.bytes b) m):Ok (oU (.bytes b) m) Q:= .of rfl q
theorem Ok.byi(h:0<=x/\x<=100000)(q:Q (.bytes (List.replicate x.toNat 0)) m):Ok (oU (.int x) m) Q:= .of (if_pos h) q
theorem Ok.bya{i:Nat}{b:List UInt8}(o:m.ob i= .ba b)(h:b.length<=100000)(q:Q (.bytes b) m):Ok (oU (.obj i) m) Q:= .of (by show qe m (m.ob i)=_;rw [o];exact if_pos h) q
theorem Ok.aew{xs:List MV}{v:MV}{k:Int}(h: -1<=k/\k<2 ^ 62)(e:xs[if k<0 then xs.length-1 else k.toNat]? =some v)(q:Q v m):Ok (zR (.tup xs) (.int k) m) Q:= .of ((if_pos h).trans (aV e)) q
theorem Ok.qg{i:Nat}{xs:List MV}{v:MV}{k:Int}(o:m.ob i= .list xs)(h:0<=k/\k<2 ^ 62)(e:xs[k.toNat]? =some v)(q:Q v m):Ok (zR (.obj i) (.int k) m) Q:= .of (by show zQ k m (m.ob i)=_;rw [o];exact(if_pos h).trans (aV e)) q
theorem Ok.aex{i:Nat}{b:List UInt8}{k:Int}(o:m.ob i= .ba b)(h:0<=k/\k<b.length/\b.length<=100000)(q:Q (.int ((b.getD k.toNat 0).toNat:Int)) m):Ok (zR (.obj i) (.int k) m) Q:= .of (by show zQ k m (m.ob i)=_;rw [o];exact if_pos h) q
theorem Ok.sG{b:List UInt8}{x y:MV}{lo hi:Option Int}(hx:t9 x=some lo)(hy:t9 y=some hi)(h:b.length<=100000)(q:Q (.bytes (c8 b lo hi)) m):Ok (t_ (.bytes b) x y m) Q:= .of ((aV hx).trans ((aV hy).trans (if_pos h))) q
theorem Ok.Gk{i:Nat}{b:List MV}{x y:MV}{lo hi:Option Int}(o:m.ob i= .list b)(hx:t9 x=some lo)(hy:t9 y=some hi)(h:b.length<=100000)(q:Q (.obj m.n) (m.new (.list (c8 b lo hi)))):Ok (t_ (.obj i) x y m) Q:= .of ((aV hx).trans ((aV hy).trans (by show Dz lo hi m (m.ob i)=_;rw [o];exact if_pos h))) q
theorem Ok.aey{i:Nat}{b:List UInt8}{x y:MV}{lo hi:Option Int}(o:m.ob i= .ba b)(hx:t9 x=some lo)(hy:t9 y=some hi)(h:b.length<=100000)(q:Q (.obj m.n) (m.new (.ba (c8 b lo hi)))):Ok (t_ (.obj i) x y m) Q:= .of ((aV hx).trans ((aV hy).trans (by show Dz lo hi m (m.ob i)=_;rw [o];exact if_pos h))) q
theorem Ok.so{c:MV->MM MV}{x:MV}(h:Ok (c x m) Q):Ok (Mine.so c [x] m) Q:=h
theorem Ok.yj{c:MV->MV->MM MV}{x y:MV}(h:Ok (c x y m) Q):Ok (Mine.yj c [x,y] m) Q:=h
theorem Ok.NO{i:Nat}{xs:List MV}(o:m.ob i= .list xs)(h:xs.length<=100000)(q:Q (.tup xs) m):Ok (Jy (.obj i) m) Q:= .of ((cC o).trans (if_pos h)) q
end
theorem bL.pt0{Q:eH->av->MH->Prop}{z:Option MV}{v:MV}{r:av}{m:MH}(q:Q .next (some v::r) m):bL (SM.put 0 v (z::r) m) Q:=⟨_,_,m,rfl,q⟩
theorem bL.Vb{Q:eH->av->MH->Prop}{a:Option MV}{z:Option MV}{v:MV}{r:av}{m:MH}(q:Q .next (a::some v::r) m):bL (SM.put 1 v (a::z::r) m) Q:=⟨_,_,m,rfl,q⟩
theorem bL.Vc{Q:eH->av->MH->Prop}{a b:Option MV}{z:Option MV}{v:MV}{r:av}{m:MH}(q:Q .next (a::b::some v::r) m):bL (SM.put 2 v (a::b::z::r) m) Q:=⟨_,_,m,rfl,q⟩
theorem bL.pt3{Q:eH->av->MH->Prop}{a b c:Option MV}{z:Option MV}{v:MV}{r:av}{m:MH}(q:Q .next (a::b::c::some v::r) m):bL (SM.put 3 v (a::b::c::z::r) m) Q:=⟨_,_,m,rfl,q⟩
theorem bL.pt4{Q:eH->av->MH->Prop}{a b c d:Option MV}{z:Option MV}{v:MV}{r:av}{m:MH}(q:Q .next (a::b::c::d::some v::r) m):bL (SM.put 4 v (a::b::c::d::z::r) m) Q:=⟨_,_,m,rfl,q⟩
theorem bL.pt5{Q:eH->av->MH->Prop}{a b c d e:Option MV}{z:Option MV}{v:MV}{r:av}{m:MH}(q:Q .next (a::b::c::d::e::some v::r) m):bL (SM.put 5 v (a::b::c::d::e::z::r) m) Q:=⟨_,_,m,rfl,q⟩
theorem bL.pt6{Q:eH->av->MH->Prop}{a b c d e f:Option MV}{z:Option MV}{v:MV}{r:av}{m:MH}(q:Q .next (a::b::c::d::e::f::some v::r) m):bL (SM.put 6 v (a::b::c::d::e::f::z::r) m) Q:=⟨_,_,m,rfl,q⟩
theorem bL.pt7{Q:eH->av->MH->Prop}{a b c d e f g:Option MV}{z:Option MV}{v:MV}{r:av}{m:MH}(q:Q .next (a::b::c::d::e::f::g::some v::r) m):bL (SM.put 7 v (a::b::c::d::e::f::g::z::r) m) Q:=⟨_,_,m,rfl,q⟩
theorem bL.aez{Q:eH->av->MH->Prop}{a b c d e f g h i j:Option MV}{z:Option MV}{v:MV}{r:av}{m:MH}(q:Q .next (a::b::c::d::e::f::g::h::i::j::some v::r) m):bL (SM.put 10 v (a::b::c::d::e::f::g::h::i::j::z::r) m) Q:=⟨_,_,m,rfl,q⟩
theorem bL.aeA{Q:eH->av->MH->Prop}{a b c d e f g h i j k:Option MV}{z:Option MV}{v:MV}{r:av}{m:MH}(q:Q .next (a::b::c::d::e::f::g::h::i::j::k::some v::r) m):bL (SM.put 11 v (a::b::c::d::e::f::g::h::i::j::k::z::r) m) Q:=⟨_,_,m,rfl,q⟩
theorem Gl{fr:av}:iS fr [] []=fr:=rfl
theorem DU{fr:av}{i:Nat}{is:List Nat}{x:MV}{xs:List MV}:iS fr (i::is) (x::xs)=iS (fr.set i (some x)) is xs:=rfl
theorem Ok.cps{α:Type}{r:Option (α×MH)}{P:α->MH->Prop}(h:∀Q:α->MH->Prop,(∀a m,P a m->Q a m)->Ok r Q):Ok r P:=h P fun O O h=>h
theorem bL.cps{r:Option (eH×av×MH)}{P:eH->av->MH->Prop}(h:∀Q:eH->av->MH->Prop,(∀f fr m,P f fr m->Q f fr m)->bL r Q):bL r P:=h P fun O O O h=>h
theorem nx{P:Prop}(h:P):eH.next=eH.next/\P:=⟨rfl,h⟩
section
variable {α β:Type}{fr:av}{m:MH}{v:MV}{w:α}{xs:List MV}
theorem Ok.kc{Q:α->MH->Prop}(q:Q w m):Ok (Kc w fr m) Q:=⟨w,m,rfl,q⟩
theorem Ok.rd{Q:MV->MH->Prop}{i:Nat}(h:slot fr i=some v)(q:Q v m):Ok (Rd i fr m) Q:=⟨v,m,IC h,q⟩
theorem Ok.p1{Q:α->MH->Prop}{c:av->MM β}{f:β->MM α}(h:Pu (oG c f) fr m w)(q:Q w m):Ok (oG c f fr m) Q:=⟨w,m,h,q⟩
theorem Ok.p2{Q:α->MH->Prop}{c d:av->MM MV}{f:MV->MV->MM α}(h:Pu (tC c d f) fr m w)(q:Q w m):Ok (tC c d f fr m) Q:=⟨w,m,h,q⟩
theorem Ok.pa{Q:List MV->MH->Prop}{c:av->MM MV}{d:av->MM (List MV)}(h:Pu (AC c d) fr m xs)(q:Q xs m):Ok (AC c d fr m) Q:=⟨xs,m,h,q⟩
end
end
local macro_rules | `(tactic|keq_rows)=>Mine.alts "Pu.k Pu.rd:d Pu.ac:aa Pu.add:aa Pu.sub:aa Pu.mod:aac Pu.fdiv:aac Pu.mul:aaf Pu.get:abbcdd Pu.iter:a Pu.tup:ae"
open Lean in
local macro_rules | `(tactic|keq_hits)=>do `(tactic|first|focus ((repeat (first|apply $(mkIdent `sH.nil)|apply $(mkIdent `sH.cons)));done)|(dsimp only [$[$((("Gl DU List.set_cons_zero List.set_cons_succ List.reverse List.reverseAux List.nil_append List.length_cons List.length_nil List.map List.replicate List.cons_append List.drop Nat.reduceAdd Nat.reduceSub".splitOn " ").map fun s=>mkIdent s.toName).toArray):ident],*];exact sF.rfl))
section
protected def stl:String:="bL.seq bL.aeq:a bL.use bL.test Ok.kc Ok.rd:d Ok.p1:a Ok.aek:a Ok.ex1 Ok.p2:a Ok.aem:aa Ok.SV:a Ok.ex2 Ok.pa:a Ok.acp:a Ok.ac Ok.mep:aabbd Ok.me Ok.ch Ok.cup:aaa Ok.cu Ok.and Ok.or Ok.if Ok.rB Ok.rS Ok.rNt Ok.bind Ok.ret Ok.bt Ok.bf bL.bt bL.bf bL.ret Al.next Al.ret xD.ret xD.next IH.next II.next nx pR.next pR.ret sI.t sI.f hj hq bL.pt0 bL.Vb bL.Vc bL.pt3 bL.pt4 bL.pt5 bL.pt6 bL.pt7 bL.aez bL.aeA Ok.so Ok.yj Ok.add Ok.sub Ok.asb Ok.byb Ok.Vo bL.act Ok.get:bbcdd Ok.xB:bbd Ok.aes:b Ok.mod:c Ok.fdiv:c Ok.ne Ok.DW Ok.Vp ue.t ue.f bL.NT:dg bL.K6:dg Ok.aeK Ok.aeL Ok.aeM Ok.aeN:b Ok.aeO Ok.QJ Ok.QK Ok.max2 Ok.Vw:gf Ok.aew:fd Ok.ae7 Ok.ae8 Ok.mul:f Ok.SW:f Ok.SX:f Ok.SY:f Ok.S_:f Ok.Ta:f Ok.aer:f Ok.wQ:f Ok.Am:f Ok.tup:e Ok.list:e Ok.NL:c"
end
local macro_rules | `(tactic|lcg_off)=>do `(tactic|repeat $(<- Mine.alts Mine.stl):tactic)
local macro_rules | `(tactic|lcg_src)=>do `(tactic|repeat $(<- Mine.alts (Mine.stl.replace "bL.test " "")):tactic)
section
variable {J:av->MH->Prop}{Q:eH->av->MH->Prop}{fr:av}{m:MH}{src:Src}{n:Nat}{T:av->List MV->MH->Prop}{ys:List MV}
def pR(J:av->MH->Prop)(Q:eH->av->MH->Prop):eH->av->MH->Prop
 | .next,fr,m=>J fr m
 | .cont,fr,m=>J fr m
 | .brk,fr,m=>Q .next fr m
 | .ret v,fr,m=>Q (.ret v) fr m
theorem pR.next(h:J fr m):pR J Q .next fr m:=h
theorem pR.ret{v:MV}(h:Q (.ret v) fr m):pR J Q (.ret v) fr m:=h
def IH(body:SM)(L:eH->av->MH->Prop):eH->av->MH->Prop
 | .next,fr,m=>bL (body fr m) L
 |_,_,_=>False
theorem IH.next{body:SM}{L:eH->av->MH->Prop}(h:bL (body fr m) L):IH body L .next fr m:=h
section
variable {ci:av->MM Src}{tg:MV->SM}{body:SM}{fr:av}{m:MH}{Q:eH->av->MH->Prop}
theorem An{I:Nat->av->MH->Prop}(hlen:∀k fr m,k<=n->I k fr m->src.len m=some n)
  (step:∀k fr m,k<n->I k fr m->∃v,src.item k m=some v/\bL (tg v fr m) (IH body (pR (I (k+1)) Q)))(done:∀fr m,I n fr m->Q .next fr m):
  ∀r fr m,r<=n->I (n-r) fr m->bL (SM.loop src n tg body r fr m) Q
 |0,fr,m,h,i=>⟨_,_,_,if_pos (hlen _ fr m (Nat.sub_le _ _) i),done _ _ i⟩
 |r+1,fr,m,h,i=>by
  obtain⟨v,h1,f,et,m1,e1,q0⟩:=step (n-(r+1)) fr m (by exact TN h) i;cases f with
  |next=> ?_
  |_=>exact q0.elim
  obtain⟨f2,mc,m2,e2,q⟩:=q0;rw [SM.NA (hlen _ fr m (Nat.sub_le _ _) i) h1 e1,e2];rw [show n-(r+1)+1=n-r by exact RO h] at q;cases f2 with
  |brk=>exact⟨_,_,_,rfl,q⟩
  |ret v=>exact⟨_,_,_,rfl,q⟩
  |_=>exact An hlen step done r mc m2 (by exact Ph h) q
theorem bL.forIn(h:Ok (ci fr m) fun src m1=>∃n,src.len m1=some n/\bL (SM.loop src n tg body n fr m1) Q):bL (SM.forIn ci tg body fr m) Q:=
 h.elim fun O h=>h.elim fun O h=>h.2.elim fun O k=>k.2.imp fun O=>Exists.imp fun O=>Exists.imp fun O q=>⟨(aV h.1).trans ((aV k.1).trans q.1),q.2⟩
theorem bL.forL(i:Nat)(xs:List MV)(I:Nat->av->MH->Prop)(hc:Ok (ci fr m) fun src m1=>src=srcOf (.obj i)/\I 0 fr m1)(ho:∀k fr m,I k fr m->m.ob i= .list xs)
  (step:∀k v fr m,xs[k]? =some v->I k fr m->∀J,(∀fr m,I (k+1) fr m->J fr m)->bL (tg v fr m) (IH body (pR J Q)))(done:∀fr m,I xs.length fr m->Q .next fr m):bL (SM.forIn ci tg body fr m) Q:=by
 refine bL.forIn (hc.mono fun src m1 h=> ?_);obtain⟨rfl,h0⟩:=h;have hl:∀k fr m,I k fr m->(srcOf (.obj i)).len m=some xs.length:=fun k fr m h=>ze (ho k fr m h);refine⟨xs.length,hl _ _ _ h0,An (fun k fr m O h=>hl k fr m h) (fun k fr m hk h=> ?_) done xs.length fr m1 (dU _) (by rw [Nat.sub_self];exact h0)⟩;refine⟨xs[k], ?_,step k _ fr m (iq hk) h _ fun O O h=>h⟩;rw [sY (ho k fr m h)];exact iq hk
theorem bL.forR(n:Nat)(I:Nat->av->MH->Prop)(hz:(n:Int)<2 ^ 60)(hc:Ok (ci fr m) fun src m1=>src=srcOf (.pk 0 n)/\I 0 fr m1)
  (step:∀k fr m,k<n->I k fr m->∀J,(∀fr m,I (k+1) fr m->J fr m)->bL (tg (.int (k:Int)) fr m) (IH body (pR J Q)))(done:∀fr m,I n fr m->Q .next fr m):bL (SM.forIn ci tg body fr m) Q:=by
 refine bL.forIn (hc.mono fun src m1 h=> ?_);obtain⟨rfl,h0⟩:=h;refine⟨n,vK hz,An (fun k fr m O h=>vK hz) (fun k fr m hk h=> ?_) done n fr m1 (dU _) (by rw [Nat.sub_self];exact h0)⟩;exact⟨.int (k:Int),rfl,step k fr m hk h _ fun O O h=>h⟩
end
abbrev Tc(T:av->List MV->MH->Prop)(ys:List MV)(fr:av)(y:MV)(m:MH):Prop:=T fr (ys++ [y]) m
def sI(T:av->List MV->MH->Prop)(ys:List MV)(dy:av->MM MV)(fr:av):Bool->MH->Prop
 |true,m=>Ok (dy fr m) (Tc T ys fr)
 |false,m=>T fr ys m
def II(test:av->MM Bool)(dy:av->MM MV)(T:av->List MV->MH->Prop)(ys:List MV):eH->av->MH->Prop
 | .next,fr,m=>Ok (test fr m) (sI T ys dy fr)
 |_,_,_=>False
section
variable {ci:av->MM Src}{tg:MV->SM}{test:av->MM Bool}{dy:av->MM MV}{fr:av}{m:MH}{Q:MV->MH->Prop}{kk:Nat}{idx:List Nat}
theorem II.next(h:Ok (test fr m) (sI T ys dy fr)):II test dy T ys .next fr m:=h
theorem sI.t(h:Ok (dy fr m) (Tc T ys fr)):sI T ys dy fr true m:=h
theorem sI.f(h:T fr ys m):sI T ys dy fr false m:=h
theorem uI{J:av->Prop}{P:Nat->List MV->MH->Prop}(hlen:∀k ys m,k<=n->P k ys m->src.len m=some n)
  (step:∀k ys fr m,k<n->P k ys m->J fr->∃v,src.item k m=some v/\bL (tg v fr m) (II test dy (fun fr ys m=>J fr/\P (k+1) ys m) ys)):
  ∀r ys fr m,r<=n->P (n-r) ys m->J fr->∃zs m',gY src n tg test dy r ys fr m=some (zs,m')/\P n zs m'
 |0,ys,fr,m,h,i,j=>⟨_,_,if_pos (hlen _ ys m (Nat.sub_le _ _) i),i⟩
 |r+1,ys,fr,m,h,i,j=>by
  obtain⟨v,h1,f,et,m1,e1,q0⟩:=step (n-(r+1)) ys fr m (by exact TN h) i j;cases f with
  |next=> ?_
  |_=>exact q0.elim
  obtain⟨t,m2,e2,q⟩:=q0;rw [Ah (t:=(t,m2)) (hlen _ ys m (Nat.sub_le _ _) i) h1 e1 e2];rw [show n-(r+1)+1=n-r by exact RO h] at q;cases t with
  |false=>exact uI hlen step r ys et m2 (by exact Ph h) q.2 q.1
  |true=>
   obtain⟨y,m3,e3,q1,q2⟩:=q;obtain⟨zs,m4,e4,q4⟩:=uI hlen step r (ys++ [y]) et m3 (by exact Ph h) q2 q1;exact⟨zs,m4,(aV e3).trans e4,q4⟩
theorem Ok.comp(n:Nat)(src:Src)(J:av->Prop)(P:Nat->List MV->MH->Prop)(hn:n<=100000)(hc:Ok (ci fr m) fun s m1=>s=src/\P 0 [] m1)(h0:J (List.replicate kk none++idx.map (slot fr)))
  (hlen:∀k ys m,k<=n->P k ys m->src.len m=some n)
  (step:∀k ys fr m,k<n->P k ys m->J fr->∃v,src.item k m=some v/\bL (tg v fr m) (II test dy (fun fr ys m=>J fr/\P (k+1) ys m) ys))
  (done:∀ys m,P n ys m->Q (.obj m.n) (m.new (.list ys))):Ok (jg ci kk idx tg test dy fr m) Q:=by
 obtain⟨s,m1,e,rfl,p0⟩:=hc;obtain⟨zs,m2,e2,q⟩:=uI hlen step n [] _ m1 (dU _) (by rw [Nat.sub_self];exact p0) h0;exact⟨_,_,Cd e (hlen 0 [] m1 (Nat.zero_le _) p0) hn e2,done zs m2 q⟩
theorem Ok.kl(i:Nat)(xs:List MV)(J:av->Prop)(P:Nat->List MV->MH->Prop)(hn:xs.length<=100000)(hc:Ok (ci fr m) fun s m1=>s=srcOf (.obj i)/\P 0 [] m1)(h0:J (List.replicate kk none++idx.map (slot fr)))
  (ho:∀k ys m,P k ys m->m.ob i= .list xs)
  (step:∀k v ys fr m,xs[k]? =some v->P k ys m->J fr->∀T,(∀fr ys m,J fr/\P (k+1) ys m->T fr ys m)->bL (tg v fr m) (II test dy T ys))
  (done:∀ys m,P xs.length ys m->Q (.obj m.n) (m.new (.list ys))):Ok (jg ci kk idx tg test dy fr m) Q:=by
 refine Ok.comp xs.length _ J P hn hc h0 (fun k ys m O h=>ze (ho k ys m h)) (fun k ys fr m hk p j=> ?_) done;refine⟨xs[k], ?_,step k _ ys fr m (iq hk) p j _ fun O O O h=>h⟩;rw [sY (ho k ys m p)];exact iq hk
theorem Ok.DV(n:Nat)(J:av->Prop)(P:Nat->List MV->MH->Prop)(hn:n<=100000)(hc:Ok (ci fr m) fun s m1=>s=srcOf (.pk 0 n)/\P 0 [] m1)(h0:J (List.replicate kk none++idx.map (slot fr)))
  (step:∀k ys fr m,k<n->P k ys m->J fr->∀T,(∀fr ys m,J fr/\P (k+1) ys m->T fr ys m)->bL (tg (.int (k:Int)) fr m) (II test dy T ys))
  (done:∀ys m,P n ys m->Q (.obj m.n) (m.new (.list ys))):Ok (jg ci kk idx tg test dy fr m) Q:=
 Ok.comp n _ J P hn hc h0 (fun k ys m O h=>vK (by exact ZS hn)) (fun k ys fr m hk p j=>⟨.int (k:Int),rfl,step k ys fr m hk p j _ fun O O O h=>h⟩) done
end
def ue(Q:Bool->MH->Prop):Bool->MH->Prop
 |true,m=>Q false m
 |false,m=>Q true m
section
variable {Q:Bool->MH->Prop}{m:MH}{x y:MV}
theorem ue.t(h:Q false m):ue Q true m:=h
theorem ue.f(h:Q true m):ue Q false m:=h
theorem Ok.neg{c:MM Bool}(h:Ok (c m) (ue Q)):Ok (MM.bind c (fun b=>MM.ret (!b)) m) Q:=by
 refine Ok.bind (h.mono fun b m1 q=> ?_);cases b <;> exact Ok.ret q
theorem Ok.ne(h:Ok (vA x y m) (ue Q)):Ok (mNe x y m) Q:=Ok.neg h
theorem Ok.DW(h:Ok (FD x y m) (ue Q)):Ok (JF x y m) Q:=Ok.neg h
theorem Ok.Vp(h:Ok (FC x y m) (ue Q)):Ok (JB x y m) Q:=Ok.neg h
end
theorem cW{α:Type}{l:List α}{k:Nat}{x:α}(h:l[k]? =some x):l.take (k+1)=l.take k++ [x]:=by rw [List.take_add_one,h];rfl
end
section
variable {m m':MH}{i j:Nat}{b:List UInt8}{g:Int}{xs:List MV}{v:MV}
structure Top where
 s:Nat
 g:Int
 p:Nat
 ks:List Int
noncomputable def gH:Nat->Str
 |0=>"disk"
 |1=>"mirror"
 |_=>"raidz"
noncomputable def strOf(l:List Nat):Str:=⟨l.toArray⟩
structure ea where
 name:List Nat
 gS:Int
 ed:Int
 fa:List Top
structure Gm (m:MH) (i j:Nat) (nm:Str) (g e:Int) (xs:List MV):Prop where
 a:m.ob i= .inst 254
 r:m.ob (i+1)= .dP [("name",.str nm),("guid",.int g),("tops",.obj j),("edition",.int e)]
 c:m.ob j= .list xs
 l:i+1<m.n/\j<m.n
structure NK (m m':MH):Prop where
 n:m.n<=m'.n
 nd:∀ {i j s g p xs},vP m i j s g p xs->vP m' i j s g p xs
 cf:∀ {i j s g p xs},Gm m i j s g p xs->Gm m' i j s g p xs
theorem NK.refl(m:MH):NK m m:=⟨dU _,id,id⟩
theorem NK.trans{a b c:MH}(x:NK a b)(y:NK b c):NK a c:=⟨jc x.n y.n,fun h=>y.nd (x.nd h),fun h=>y.cf (x.cf h)⟩
theorem NK.of(x:Ext m m'):NK m m':=by
 refine⟨x.n,fun h=> ?_,fun h=> ?_⟩
 all_goals
  refine az fun zG=> ?_;obtain⟨a,r,c,l1,l2⟩:=h;refine zG ?_;exact⟨(x.ob _ (by exact O3 l1)).trans a,(x.ob _ l1).trans r,(x.ob _ l2).trans c,eE l1 x.n,eE l2 x.n⟩
theorem NK.ofB(x:fk j m m')(h1:∀C,m.ob j≠ .inst C)(h2:∀xs,m.ob j≠ .list xs)(h3:∀i fs,j=i+1->m.ob j= .dP fs->m.ob i≠ .inst 227/\m.ob i≠ .inst 254):NK m m':=by
 refine⟨x.n,fun h=> ?_,fun h=> ?_⟩
 all_goals
  refine az fun zG=> ?_;obtain⟨a,r,c,l1,l2⟩:=h;refine zG ?_;refine⟨(x.ob _ (by exact O3 l1) fun q=> ?_).trans a,(x.ob _ l1 fun q=> ?_).trans r,(x.ob _ l2 fun q=> ?_).trans c,eE l1 x.n,eE l2 x.n⟩
  ·exact h1 _ (q▸a)
  ·first|exact(h3 _ _ q.symm (q▸r)).1 a|exact(h3 _ _ q.symm (q▸r)).2 a
  ·exact h2 _ (q▸c)
theorem dI.nk(S:dI m i j b)(x:fk j m m'):NK m m':=
 .ofB x (fun C q=>by rw [S.o] at q;cases q) (fun C q=>by rw [S.o] at q;cases q) fun k fs O q=>by rw [S.o] at q;cases q
theorem fw.nk{k:Nat}(S:fw m i b k)(x:fk (i+1) m m'):NK m m':=
 .ofB x (fun C q=>by rw [S.r] at q;cases q) (fun C q=>by rw [S.r] at q;cases q) fun j fs h O=>by
  obtain rfl:i=j:=by exact TB h
  rw [S.a];exact⟨fun q=>by injection q with q;exact absurd q (bR rfl),fun q=>by injection q with q;exact absurd q (bR rfl)⟩
def iy(m:MH)(v:MV)(g:Int):Prop:=∃i j,v= .obj i/\vP m i j "disk" g 0 []
def mL(m:MH)(v:MV)(T:Top):Prop:=∃i j xs,v= .obj i/\vP m i j (gH T.s) T.g (T.p:Int) xs/\F2 (iy m) xs T.ks
def eZ(m:MH)(v:MV)(C:ea):Prop:=∃i j xs,v= .obj i/\Gm m i j (strOf C.name) C.gS C.ed xs/\F2 (mL m) xs C.fa
section
variable {m m':MH}{v:MV}
theorem iy.keep(h:iy m v g)(x:NK m m'):iy m' v g:=h.imp fun O=>Exists.imp fun O=>And.imp_right x.nd
theorem mL.keep{g:Top}(h:mL m v g)(x:NK m m'):mL m' v g:=h.imp fun O=>Exists.imp fun O=>Exists.imp fun O=>And.imp_right fun h=>⟨x.nd h.1,h.2.mono fun O O a=>a.keep x⟩
theorem eZ.keep{g:ea}(h:eZ m v g)(x:NK m m'):eZ m' v g:=h.imp fun O=>Exists.imp fun O=>Exists.imp fun O=>And.imp_right fun h=>⟨x.cf h.1,h.2.mono fun O O a=>a.keep x⟩
end
def xG(m m':MH)(r:MV)(xs:List MV):Prop:=∃o,r= .obj o/\m.n<=o/\o<m'.n/\m'.ob o= .list xs/\Ext m m'
theorem Ok.nl{r:Option (MV×MH)}{Q:MV->MH->Prop}(h:Ok r fun v m'=>xG m m' v xs)(q:∀o m',m.n<=o->o<m'.n->m'.ob o= .list xs->Ext m m'->Q (.obj o) m'):Ok r Q:=h.mono fun v m' ⟨o,e,p⟩=>e▸q o m' p.1 p.2.1 p.2.2.1 p.2.2.2
theorem xG.of{m1:MH}(x:Ext m m1):xG m (m1.new (.list xs)) (.obj m1.n) xs:=⟨_,rfl,x.n,gA _,bc _ _,x.trans (.new _ _)⟩
noncomputable def DX(g:Int):MV:= .tup [.str "disk",.int g,.int 0,.tup []]
noncomputable def JU(T:Top):MV:= .tup [.str (gH T.s),.int T.g,.int T.p,.tup (T.ks.map DX)]
noncomputable def DY(C:ea):MV:= .tup [.str (strOf C.name),.int C.gS,.int C.ed,.tup (C.fa.map JU)]
theorem DZ(h:iy m v g):Ok (mG.1 [v] m) fun r m'=>r=DX g/\Ext m m':=by
 refine az fun zG=> ?_;obtain⟨i,j,rfl,a,r,c,l⟩:=h;refine zG ?_;dsimp only [mG];refine Ok.cps fun Q hq=> ?_;refine Ok.dc (eN rfl) (by keq_hits) ?_;lcg_off;refine Ok.kl j [] (fun fr=>True) (fun k ys m1=>m1=m/\ys= []) (by simp) ?_ trivial ?_ ?_ ?_
 ·lcg_off;exact⟨rfl,rfl,rfl⟩
 ·rintro k ys m1 ⟨rfl,_⟩;exact c
 ·intro k v ys fr m1 e;exact absurd e (by simp)
 ·rintro ys m1 ⟨rfl,rfl⟩;lcg_off;refine Ok.NO (bc _ _) (by simp) ?_;lcg_off;exact⟨rfl,.new _ _⟩
theorem Gn{T:Top}(h:mL m v T)(hz:T.ks.length<=100):Ok (mH.1 [v] m) fun r m'=>r=JU T/\Ext m m':=by
 refine az fun zG=> ?_;obtain⟨i,j,xs,rfl,⟨a,r,c,l⟩,F⟩:=h;refine zG ?_;have hx:=F.len;dsimp only [mH];refine Ok.cps fun Q hq=> ?_;refine Ok.dc (eN rfl) (by keq_hits) ?_;lcg_off;refine Ok.kl j xs (fun fr=>∃o,fr= [o]) (fun k ys m1=>Ext m m1/\ys=(T.ks.take k).map DX) (by exact Ka hz hx) ?_ ⟨_,rfl⟩ ?_ ?_ ?_
 ·lcg_off;exact⟨rfl,.refl _,rfl⟩
 ·rintro k ys m1 ⟨x,_⟩;exact(x.ob _ l.2).trans c
 ·intro k v ys fr m1 e gQ lM U hj;refine az fun zG=> ?_;obtain⟨x,rfl⟩:=gQ;obtain⟨o,rfl⟩:=lM;refine zG ?_;refine az fun zG=> ?_;obtain⟨g,hg,L⟩:=F.get e;refine zG ?_;have L1:=L.keep (.of x);refine az fun zG=> ?_;obtain⟨i2,j2,rfl,a2,r2,c2,l2⟩:=id L1;refine zG ?_;lcg_off;refine(DZ L1).q1 ?_;intro m2 x2;lcg_off;exact⟨⟨_,rfl⟩,x.trans x2,by rw [cW hg,jb];rfl⟩
 ·rintro ys m1 ⟨x,rfl⟩;lcg_off;refine Ok.NO (bc _ _) (by simp;exact R8 hz hx) ?_;lcg_off;rw [hx,hF];exact⟨rfl,x.trans (.new _ _)⟩
theorem jz{C:ea}(h:eZ m v C)(hz:C.fa.length<=100)(NP:∀T∈C.fa,T.ks.length<=100):Ok (f_.1 [v] m) fun r m'=>r=DY C/\Ext m m':=by
 refine az fun zG=> ?_;obtain⟨i,j,xs,rfl,⟨a,r,c,l⟩,F⟩:=h;refine zG ?_;have hx:=F.len;dsimp only [f_];refine Ok.cps fun Q hq=> ?_;refine Ok.dc (eN rfl) (by keq_hits) ?_;lcg_off;refine Ok.kl j xs (fun fr=>∃o,fr= [o]) (fun k ys m1=>Ext m m1/\ys=(C.fa.take k).map JU) (by exact Ka hz hx) ?_ ⟨_,rfl⟩ ?_ ?_ ?_
 ·lcg_off;exact⟨rfl,.refl _,rfl⟩
 ·rintro k ys m1 ⟨x,_⟩;exact(x.ob _ l.2).trans c
 ·intro k v ys fr m1 e gQ lM U hj;refine az fun zG=> ?_;obtain⟨x,rfl⟩:=gQ;obtain⟨o,rfl⟩:=lM;refine zG ?_;refine az fun zG=> ?_;obtain⟨T,hg,L⟩:=F.get e;refine zG ?_;have L1:=L.keep (.of x);refine az fun zG=> ?_;obtain⟨i2,j2,xs2,rfl,⟨a2,r2,c2,l2⟩,F2⟩:=id L1;refine zG ?_;lcg_off;refine(Gn L1 (NP _ (jC hg))).q1 ?_;intro m2 x2;lcg_off;exact⟨⟨_,rfl⟩,x.trans x2,by rw [cW hg,jb];rfl⟩
 ·rintro ys m1 ⟨x,rfl⟩;lcg_off;refine Ok.NO (bc _ _) (by simp;exact R8 hz hx) ?_;lcg_off;rw [hx,hF];exact⟨rfl,x.trans (.new _ _)⟩
end
section
variable {m:MH}{v:MV}{T:Top}{α β:Type}
theorem Ext.pb{m2:MH}{o:Nat}{x:MO}(h:Ext m m2)(ho:m.n<=o):Ext m (m2.set o x):=⟨h.n,fun i hi=>(cj (by exact WB ho hi)).trans (h.ob i hi)⟩
theorem yt{g:Int}(h:iy m v g):Ok (pK.1 [v] m) fun r m'=>xG m m' r [.int g]:=by
 refine az fun zG=> ?_;obtain⟨i,j,rfl,a,r,c,l⟩:=h;refine zG ?_;dsimp only [pK];refine Ok.cps fun Q hq=> ?_;refine Ok.dc (eN rfl) (by keq_hits) ?_;lcg_off
 skip
 lcg_off;exact .of (.refl _)
noncomputable def gy(T:Top):List Int:=if T.s=0 then [T.g] else T.ks
theorem NQ{s:Nat}(h:s≠0):(gH s==("disk":Str))=false:=by
 match s,h with
 |1,_=>decide
 |n+2,_=>show(("raidz":Str)==("disk":Str))=false;decide
theorem sJ(h:mL m v T)(hz:T.ks.length<=100):Ok (lZ.1 [v] m) fun r m'=>xG m m' r ((gy T).map .int):=by
 refine az fun zG=> ?_;obtain⟨i,j,xs,rfl,⟨a,r,c,l⟩,F⟩:=h;refine zG ?_;have hx:=F.len;dsimp only [lZ];refine Ok.cps fun Q hq=> ?_;refine Ok.dc (eN rfl) (by keq_hits) ?_
 by_cases hs:T.s=0
 ·rw [hs] at r;change _=MO.dP [("sort",.str "disk"),_,_,_] at r;lcg_off
  skip
  lcg_off;rw [gy,if_pos hs];exact .of (.refl _)
 ·have hn:=NQ hs;lcg_off;refine Ok.NL hn ?_;lcg_off
  skip
  lcg_off;refine bL.forL j xs (fun k fr m1=>∃z,fr= [some (.obj i),some (.obj m.n),z]/\Ext m m1/\m.n<m1.n/\m1.ob m.n= .list ((T.ks.take k).map .int)) ?_ ?_ ?_ ?_
  ·have a':=((Ext.new m (.list [])).ob i (by exact TH l)).trans a;have r':=((Ext.new m (.list [])).ob _ l.1).trans r;lcg_off;exact⟨rfl,_,rfl,.new _ _,gA _,bc _ _⟩
  ·intro k fr m1 mM;refine az fun zG=> ?_;obtain⟨z,rfl,x,hn,o⟩:=mM;refine zG ?_;exact(x.ob _ l.2).trans c
  ·intro k v fr m1 e jJ J hj;refine az fun zG=> ?_;obtain⟨z,rfl,x,hn,o⟩:=jJ;refine zG ?_;refine az fun zG=> ?_;obtain⟨g,hg,L⟩:=F.get e;refine zG ?_;have L1:=L.keep (.of x);lcg_off;refine(yt L1).nl ?_;intro o2 m2 h1 h2 h3 x2;lcg_off;have o':=(x2.ob _ hn).trans o;refine Ok.NN o' h3 ⟨by simp;exact WU hz,Nat.lt_of_lt_of_le hn x2.n⟩ ?_;lcg_off;refine⟨_,rfl,(x.trans x2).pb (dU _),eE hn x2.n, ?_⟩;rw [fL,cW hg,jb];rfl
  ·intro fr m1 fN;refine az fun zG=> ?_;obtain⟨z,rfl,x,hn,o⟩:=fN;refine zG ?_;lcg_off;rw [hx,hF] at o;rw [gy,if_neg hs];exact⟨_,rfl,dU _,hn,o,x⟩
noncomputable def eU(C:ea):List Int:=C.fa.flatMap gy
theorem qO{l:List α}{f:α->List β}{k:Nat}{x:α}(h:l[k]? =some x):(l.take (k+1)).flatMap f=(l.take k).flatMap f++f x:=by rw [cW h,List.flatMap_append];simp
theorem tv{l:List α}{f:α->List β}(h:∀x∈l,(f x).length<=100):(l.flatMap f).length<=100*l.length:=by
 induction l with
 |nil=>simp
 |cons a r ih=>
  rw [List.flatMap_cons,ir,oK];have:=ih fun x hx=>h x (List.mem_cons_of_mem _ hx);have:=h a rI;exact WV (by assumption) this
theorem iQ(h:T.ks.length<=100):(gy T).length<=100:=by
 unfold gy
 split
 ·simp
 ·exact h
theorem Bv{C:ea}(h:eZ m v C)(hz:C.fa.length<=100)(NP:∀T∈C.fa,T.ks.length<=100):Ok (pM.1 [v] m) fun r m'=>xG m m' r ((eU C).map .int):=by
 refine az fun zG=> ?_;obtain⟨i,j,xs,rfl,⟨a,r,c,l⟩,F⟩:=h;refine zG ?_;have hx:=F.len;dsimp only [pM];refine Ok.cps fun Q hq=> ?_;refine Ok.dc (eN rfl) (by keq_hits) ?_;lcg_off
 skip
 lcg_off;refine bL.forL j xs (fun k fr m1=>∃z,fr= [some (.obj i),some (.obj m.n),z]/\Ext m m1/\m.n<m1.n/\m1.ob m.n= .list (((C.fa.take k).flatMap gy).map .int)) ?_ ?_ ?_ ?_
 ·have a':=((Ext.new m (.list [])).ob i (by exact TH l)).trans a;have r':=((Ext.new m (.list [])).ob _ l.1).trans r;lcg_off;exact⟨rfl,_,rfl,.new _ _,gA _,bc _ _⟩
 ·intro k fr m1 mM;refine az fun zG=> ?_;obtain⟨z,rfl,x,hn,o⟩:=mM;refine zG ?_;exact(x.ob _ l.2).trans c
 ·intro k v fr m1 e jJ J hj;refine az fun zG=> ?_;obtain⟨z,rfl,x,hn,o⟩:=jJ;refine zG ?_;refine az fun zG=> ?_;obtain⟨T,hg,L⟩:=F.get e;refine zG ?_;have hT:=jC hg;have L1:=L.keep (.of x);lcg_off;refine(sJ L1 (NP _ hT)).nl ?_;intro o2 m2 h1 h2 h3 x2;lcg_off;have o':=(x2.ob _ hn).trans o;have b1:=tv (l:=C.fa.take k) (f:=gy) fun T h=>iQ (NP T (List.mem_of_mem_take h));have b2:(C.fa.take k).length<=100:=by rw [ig];exact WW hz
  have b3:=iQ (NP T hT);refine Ok.NN o' h3 ⟨by rw [eW,eW];exact WX b1 b2 b3,eE hn x2.n⟩ ?_;lcg_off;refine⟨_,rfl,(x.trans x2).pb (dU _),eE hn x2.n, ?_⟩;rw [fL,qO hg,jb]
 ·intro fr m1 fN;refine az fun zG=> ?_;obtain⟨z,rfl,x,hn,o⟩:=fN;refine zG ?_;lcg_off;rw [hx,hF] at o;exact⟨_,rfl,dU _,hn,o,x⟩
end
section
variable {Q:MV->MH->Prop}{m:MH}{i j:Nat}{b:List UInt8}
theorem jA(m:MH):Ok (gw.1 [] m) fun r m'=>xG m m' r [.str "disk",.str "mirror",.str "raidz"]:=by
 dsimp only [gw];refine Ok.cps fun Q hq=> ?_;refine Ok.dc (eN rfl) (by keq_hits) ?_;lcg_off;exact .of (.refl _)
theorem Ok.index{k:Str}{xs:List MV}{ns:List Str}(o:m.ob i= .list xs)(e:strsOf xs=some ns)(f:zY k ns=some j)(h:ns.length<=100000)(q:Q (.int (j:Int)) m):Ok (JJ [.obj i,.str k] m) Q:=
 .of ((cC o).trans ((aV e).trans ((aV f).trans (if_pos h)))) q
theorem Cg{s:Nat}(h:s<3):zY (gH s) [("disk":Str),"mirror","raidz"]=some s:=(bR rfl:∀s<3,zY (gH s) [("disk":Str),"mirror","raidz"]=some s) s h
theorem dI.NR{m':MH}(S:dI m i j b)(x:Ext m m'):dI m' i j b:=S.keep (.of x) ((x.ob j S.l.2).trans S.o)
theorem gc{k:Nat}{n:Int}(S:dI m i j b)(h0:0<=n)(h1:n<256 ^ k)(hk:k<=8)(hb:b.length<=5000)
  (q:∀m',dI m' i j (b++bP k n)->fk j m m'->NK m m'->Q .none m'):Ok (bJ.1 [.obj i,.int n,.int (k:Int)] m) Q:=
 Ok.ex (oZ S h0 h1 hk hb) fun m' ⟨x,o⟩=>q m' (S.keep x o) x (S.nk x)
noncomputable def pS(g:Int):List UInt8:=bP 1 0++(bP 4 g++(bP 1 0++bP 1 0))
noncomputable def ip(T:Top):List UInt8:=bP 1 T.s++(bP 4 T.g++(bP 1 T.p++(bP 1 T.ks.length++T.ks.flatMap pS)))
noncomputable def gn(C:ea):List UInt8:=bP 4 1953654117++(bP 1 1++((bP 1 C.name.length++C.name.map fun c=>c.toUInt8)++(bP 8 C.gS++(bP 4 C.ed++(bP 1 C.fa.length++C.fa.flatMap ip)))))
theorem Ao(g:Int):(pS g).length=7:=by unfold pS;simp [aw]
theorem uJ{α β:Type}{l:List α}{f:α->List β}{c:Nat}(h:∀x∈l,(f x).length=c):(l.flatMap f).length=c*l.length:=by
 induction l with
 |nil=>simp
 |cons a r ih=>
  rw [List.flatMap_cons,ir,oK,ih fun x hx=>h x (List.mem_cons_of_mem _ hx),h a rI,Nat.mul_succ];exact YX
theorem qh(T:Top):(ip T).length=7+7*T.ks.length:=by
 unfold ip;simp only [List.length_append,aw];rw [uJ (c:=7) fun x O=>Ao x];exact YY
theorem yu{v:MV}{g:Int}(S:dI m i j b)(h:iy m v g)(hg:0<=g/\g<2 ^ 32)(hb:b.length<=4000):
  Ok (pN.1 [.obj i,v] m) fun r m'=>r= .none/\dI m' i j (b++pS g)/\fk j m m':=by
 refine az fun zG=> ?_;obtain⟨i1,j1,rfl,N⟩:=h;refine zG ?_;dsimp only [pN];refine Ok.cps fun Q hq=> ?_;refine Ok.dc (eN rfl) (by keq_hits) ?_;refine az fun zG=> ?_;obtain⟨a0,r0,_,_⟩:=id S;refine zG ?_;lcg_off;refine(jA m).nl ?_;intro o1 m1 _ _ ho x1;have N1:=(NK.of x1).nd N;refine az fun zG=> ?_;obtain⟨a,r,c,l⟩:=id N1;refine zG ?_;have S1:=S.NR x1;lcg_off;refine Ok.index ho rfl (Cg (s:=0) (by decide)) (by decide) ?_;lcg_off;refine gc (k:=1) S1 (bR rfl) (bR rfl) (bR rfl) (by exact lk hb) fun m2 S2 x2 k2=> ?_;have N2:=k2.nd N1;refine az fun zG=> ?_;obtain⟨a,r,c,l⟩:=id N2;refine zG ?_;refine az fun zG=> ?_;obtain⟨a0,r0,_,_⟩:=id S2;refine zG ?_;have z2:=S2.o;lcg_off;refine gc (k:=4) S2 (by exact Po hg) (by exact Pp hg) (of_decide_eq_true rfl) (by simp [aw];exact YZ hb) fun m3 S3 x3 k3=> ?_;have N3:=k3.nd N2;refine az fun zG=> ?_;obtain⟨a,r,c,l⟩:=id N3;refine zG ?_;refine az fun zG=> ?_;obtain⟨a0,r0,_,_⟩:=id S3;refine zG ?_;lcg_off;refine gc (k:=1) S3 (of_decide_eq_true rfl) (of_decide_eq_true rfl) (of_decide_eq_true rfl) (by simp [aw];exact Y0 hb) fun m4 S4 x4 k4=> ?_;have N4:=k4.nd N3;refine az fun zG=> ?_;obtain⟨a,r,c,l⟩:=id N4;refine zG ?_;refine az fun zG=> ?_;obtain⟨a0,r0,_,_⟩:=id S4;refine zG ?_;lcg_off;refine Ok.xF c (by simp) ?_;lcg_off;refine gc (k:=1) S4 (by decide) (by decide) (by decide) (by simp [aw];exact Y1 hb) fun m5 S5 x5 k5=> ?_;have N5:=k5.nd N4;refine az fun zG=> ?_;obtain⟨a,r,c,l⟩:=id N5;refine zG ?_;lcg_off;refine bL.forL j1 [] (fun k fr m1=>m1=m5) ?_ ?_ ?_ ?_
 ·lcg_off;exact⟨rfl,rfl⟩
 ·rintro k fr _ rfl;exact c
 ·intro k v fr m e;exact absurd e (by simp)
 ·rintro fr _ rfl;lcg_off;refine⟨rfl, ?_,((((fk.of x1).trans x2).trans x3).trans x4).trans x5⟩;unfold pS
  simpa only [List.append_assoc,List.length_nil,Int.ofNat_zero] using S5
end
section
variable {j:Nat}{m:MH}{v:MV}{T:Top}
structure TopOK (T:Top):Prop where
 s:T.s<3
 g:0<=T.g/\T.g<2 ^ 32
 p:T.p<256
 ks:∀g∈T.ks,0<=g/\g<2 ^ 32
 l:T.ks.length<=10
theorem fk.refl(m:MH):fk j m m:=⟨dU _,fun O O O=>rfl⟩
theorem Ap{i:Nat}{b:List UInt8}(S:dI m i j b)(h:mL m v T)(hT:TopOK T)(hb:b.length<=3000):
  Ok (pO.1 [.obj i,v] m) fun r m'=>r= .none/\dI m' i j (b++ip T)/\fk j m m':=by
 refine az fun zG=> ?_;obtain⟨i1,j1,xs,rfl,N,F⟩:=h;refine zG ?_;have hx:=F.len;have hl:=hT.l;dsimp only [pO];refine Ok.cps fun Q hq=> ?_;refine Ok.dc (eN rfl) (by keq_hits) ?_;refine az fun zG=> ?_;obtain⟨a0,r0,_,_⟩:=id S;refine zG ?_;lcg_off;refine(jA m).nl ?_;intro o1 m1 _ _ ho x1;have N1:=(NK.of x1).nd N;refine az fun zG=> ?_;obtain⟨a,r,c,l⟩:=id N1;refine zG ?_;have S1:=S.NR x1;lcg_off;refine Ok.index ho rfl (Cg hT.s) (by decide) ?_;lcg_off;refine gc (k:=1) S1 (by exact O2) (by have:=hT.s;exact RK this) (by decide) (by exact lk hb) fun m2 S2 x2 k2=> ?_;have N2:=k2.nd N1;refine az fun zG=> ?_;obtain⟨a,r,c,l⟩:=id N2;refine zG ?_;refine az fun zG=> ?_;obtain⟨a0,r0,_,_⟩:=id S2;refine zG ?_;have z2:=S2.o;lcg_off;refine gc (k:=4) S2 hT.g.1 (by have:=hT.g.2;exact TR this) (by decide) (by simp [aw];exact Z0 hb) fun m3 S3 x3 k3=> ?_;have N3:=k3.nd N2;refine az fun zG=> ?_;obtain⟨a,r,c,l⟩:=id N3;refine zG ?_;refine az fun zG=> ?_;obtain⟨a0,r0,_,_⟩:=id S3;refine zG ?_;lcg_off;refine gc (k:=1) S3 (by exact O2) (by have:=hT.p;exact RL this) (by decide) (by simp [aw];exact Z1 hb) fun m4 S4 x4 k4=> ?_;have N4:=k4.nd N3;refine az fun zG=> ?_;obtain⟨a,r,c,l⟩:=id N4;refine zG ?_;refine az fun zG=> ?_;obtain⟨a0,r0,_,_⟩:=id S4;refine zG ?_;lcg_off;refine Ok.xF c (by exact RS hx hl) ?_;lcg_off;refine gc (k:=1) S4 (by exact O2) (by exact RT hx hl) (by decide) (by simp [aw];exact Z2 hb) fun m5 S5 x5 k5=> ?_;have N5:=k5.nd N4;refine az fun zG=> ?_;obtain⟨a,r,c,l⟩:=id N5;refine zG ?_;have X5:=((((fk.of x1).trans x2).trans x3).trans x4).trans x5;have F5:=F.mono fun O O a=>iy.keep a ((((NK.of x1).trans k2).trans k3).trans (k4.trans k5));lcg_off;generalize hB:b++bP 1 _++_++_++_=B at S5;have QG:B.length=b.length+7:=by rw [<- hB];simp [aw]
 refine bL.forL j1 xs (fun k fr m1=>∃z,fr= [some (.obj i),some (.obj i1),z]/\fk j m5 m1/\NK m5 m1/\dI m1 i j (B++(T.ks.take k).flatMap pS)) ?_ ?_ ?_ ?_
 ·lcg_off;exact⟨rfl,_,rfl,.refl _,.refl _,by simpa using S5⟩
 ·intro k fr m6 mM;refine az fun zG=> ?_;obtain⟨z,rfl,x,n,S6⟩:=mM;refine zG ?_;exact(n.nd N5).c
 ·intro k v fr m6 e jJ J hj;refine az fun zG=> ?_;obtain⟨z,rfl,x,n,S6⟩:=jJ;refine zG ?_;refine az fun zG=> ?_;obtain⟨g,hg,L⟩:=F5.get e;refine zG ?_;have L1:=L.keep n;lcg_off;have rW:=uJ (l:=T.ks.take k) (f:=pS) (c:=7) fun x O=>Ao x;have hk:(T.ks.take k).length<=10:=by rw [ig];exact TJ hl
  refine(yu S6 L1 (hT.ks _ (jC hg)) (by rw [ir,rW];exact Z3 hb QG hk)).q2 ?_;intro m7 S7 x7;lcg_off;refine⟨_,rfl,x.trans x7,n.trans (S6.nk x7), ?_⟩;rw [qO hg, <- List.append_assoc];exact S7
 ·intro fr m6 fN;refine az fun zG=> ?_;obtain⟨z,rfl,x,n,S6⟩:=fN;refine zG ?_;lcg_off;refine⟨rfl, ?_,X5.trans x⟩;rw [hx,hF, <- hB] at S6;unfold ip;rw [<- hx]
  simpa only [List.append_assoc] using S6
structure ConfOK (C:ea):Prop where
 nm:∀c∈C.name,32<=c/\c<127
 nl:C.name.length<=50
 g:0<=C.gS/\C.gS<2 ^ 60
 e:0<=C.ed/\C.ed<2 ^ 32
 t:∀T∈C.fa,TopOK T
 l:C.fa.length<=10
theorem Ar(h:TopOK T):(ip T).length<=77:=by rw [qh];have:=h.l;exact Z4 this
theorem As{α β:Type}{l:List α}{f:α->List β}{c:Nat}(h:∀x∈l,(f x).length<=c):(l.flatMap f).length<=c*l.length:=by
 induction l with
 |nil=>simp
 |cons a r ih=>
  rw [List.flatMap_cons,ir,oK,Nat.mul_succ];have:=ih fun x hx=>h x (List.mem_cons_of_mem _ hx);have:=h a rI;exact Z5 (by assumption) this
theorem pe{C:ea}(h:eZ m v C)(hC:ConfOK C):Ok (iX.1 [v] m) fun r m'=>r= .bytes (gn C)/\Ext m m':=by
 refine az fun zG=> ?_;obtain⟨i1,j1,xs,rfl,N,F⟩:=h;refine zG ?_;have hx:=F.len;have hl:=hC.l;have DK:=hC.nl;dsimp only [iX];refine Ok.cps fun Q hq=> ?_;refine Ok.dc (eN rfl) (by keq_hits) ?_;lcg_off;refine Ok.ex (IG m) ?_;rintro m0 ⟨x0,S0⟩;have N0:=(NK.of x0).cf N;refine az fun zG=> ?_;obtain⟨a0,r0,_,_⟩:=id S0;refine zG ?_;lcg_off;refine gc (k:=4) S0 (of_decide_eq_true rfl) (of_decide_eq_true rfl) (of_decide_eq_true rfl) (by simp) fun m1 S1 x1 k1=> ?_;have N1:=k1.cf N0;refine az fun zG=> ?_;obtain⟨a0,r0,_,_⟩:=id S1;refine zG ?_;lcg_off;refine gc (k:=1) S1 (of_decide_eq_true rfl) (of_decide_eq_true rfl) (of_decide_eq_true rfl) (by simp [aw]) fun m2 S2 x2 k2=> ?_;have N2:=k2.cf N1;refine az fun zG=> ?_;obtain⟨a0,r0,_,_⟩:=id S2;refine zG ?_;refine az fun zG=> ?_;obtain⟨a,r,c,l⟩:=id N2;refine zG ?_;lcg_off;refine Ok.ex (yr S2 hC.nm (by exact lk DK) (by simp [aw])) fun m3 hq=> ?_;obtain⟨x3,o3⟩:=hq;have S3:=S2.keep x3 o3;have k3:=S2.nk x3;have N3:=k3.cf N2;refine az fun zG=> ?_;obtain⟨a0,r0,_,_⟩:=id S3;refine zG ?_;refine az fun zG=> ?_;obtain⟨a,r,c,l⟩:=id N3;refine zG ?_;lcg_off;refine gc (k:=8) S3 hC.g.1 (by have:=hC.g.2;exact Z6 this) (of_decide_eq_true rfl) (by simp [aw];exact Z7 DK) fun m4 S4 x4 k4=> ?_;have N4:=k4.cf N3;refine az fun zG=> ?_;obtain⟨a0,r0,_,_⟩:=id S4;refine zG ?_;refine az fun zG=> ?_;obtain⟨a,r,c,l⟩:=id N4;refine zG ?_;lcg_off;refine gc (k:=4) S4 hC.e.1 (by have:=hC.e.2;exact TR this) (by decide) (by simp [aw];exact Z8 DK) fun m5 S5 x5 k5=> ?_;have N5:=k5.cf N4;refine az fun zG=> ?_;obtain⟨a0,r0,_,_⟩:=id S5;refine zG ?_;refine az fun zG=> ?_;obtain⟨a,r,c,l⟩:=id N5;refine zG ?_;lcg_off;refine Ok.xF c (by exact RS hx hl) ?_;lcg_off;refine gc (k:=1) S5 (by exact O2) (by exact RT hx hl) (by decide) (by simp [aw];exact Z9 DK) fun m6 S6 x6 k6=> ?_;have N6:=k6.cf N5;refine az fun zG=> ?_;obtain⟨a,r,c,l⟩:=id N6;refine zG ?_;have X6:=((((x1.trans x2).trans x3).trans x4).trans x5).trans x6;have F6:=F.mono fun O O a=>mL.keep a ((NK.of x0).trans ((k1.trans k2).trans (k3.trans (k4.trans (k5.trans k6)))));lcg_off;generalize hB:_++bP 1 (xs.length:Int)=B at S6;have QG:B.length<=200:=by rw [<- hB];simp [aw];exact Z_ DK
 refine bL.forL j1 xs (fun k fr m1=>∃z,fr= [some (.obj i1),some (.obj m.n),z]/\fk (m.n+2) m6 m1/\NK m6 m1/\dI m1 m.n (m.n+2) (B++(C.fa.take k).flatMap ip)) ?_ ?_ ?_ ?_
 ·lcg_off;exact⟨rfl,_,rfl,.refl _,.refl _,by simpa using S6⟩
 ·intro k fr m7 mM;refine az fun zG=> ?_;obtain⟨z,rfl,x,n,S7⟩:=mM;refine zG ?_;exact(n.cf N6).c
 ·intro k v fr m7 e jJ J hj;refine az fun zG=> ?_;obtain⟨z,rfl,x,n,S7⟩:=jJ;refine zG ?_;refine az fun zG=> ?_;obtain⟨g,hg,L⟩:=F6.get e;refine zG ?_;have L1:=L.keep n;lcg_off;have rW:=As (l:=C.fa.take k) (f:=ip) (c:=77) fun x hx=>Ar (hC.t _ (List.mem_of_mem_take hx));have hk:(C.fa.take k).length<=10:=by rw [ig];exact TJ hl
  refine(Ap S7 L1 (hC.t _ (jC hg)) (by rw [ir];exact aab QG rW hk)).q2 ?_;intro m8 S8 x8;lcg_off;refine⟨_,rfl,x.trans x8,n.trans (S7.nk x8), ?_⟩;rw [qO hg, <- List.append_assoc];exact S8
 ·intro fr m7 fN;refine az fun zG=> ?_;obtain⟨z,rfl,x,n,S7⟩:=fN;refine zG ?_;rw [hx,hF] at S7;have rW:=As (l:=C.fa) (f:=ip) (c:=77) fun x hx=>Ar (hC.t _ hx);have hcf:B++C.fa.flatMap ip=gn C:=by
   rw [<- hB,hx];unfold gn;simp only [List.append_assoc,List.nil_append]
  refine az fun zG=> ?_;obtain⟨a0,r0,_,_⟩:=id S7;refine zG ?_;lcg_off;refine Ok.of (wO S7 (by rw [ir];exact aad hl QG rW)) ?_;lcg_off;refine⟨by rw [hcf],⟨jc x0.n (jc X6.n x.n),fun t ht=> ?_⟩⟩;have h0:=x0.n;have h6:=X6.n;have hS:=S0.l;exact(x.ob t (by exact aae (by assumption) ht h6) (by exact RU ht)).trans ((X6.ob t (by exact aag (by assumption) ht) (by exact RU ht)).trans (x0.ob t ht))
end
section
variable {is:List Nat}{xs:List MV}{fr et:av}{m:MH}{Q:eH->av->MH->Prop}{i k:Nat}{b r:List UInt8}{g:Int}
theorem bL.NT(h:xs.length=is.length)(hf:sF (iS fr is xs) et)(q:Q .next et m):bL (SM.unpack is (.tup xs) fr m) Q:=bL.unpack h (by unfold sF at hf;rw [hf];exact q)
theorem bL.K6(h:xs.length=is.length)(hf:sF (iS fr is xs.reverse) et)(q:Q .next et m):bL (SM.su is (.tup xs) fr m) Q:=bL.su h (by unfold sF at hf;rw [hf];exact q)
theorem h_{sz:Nat}{n:Int}{Q:MV->MH->Prop}(S:fw m i b k)(hd:b.drop k=bP sz n++r)(h0:0<=n)(h1:n<256 ^ sz)(h2:n<2 ^ 60)(hs:0<sz/\sz<=8)(hb:b.length<=1000)
  (q:∀m',fw m' i b (k+sz)->b.drop (k+sz)=r->fk (i+1) m m'->NK m m'->Q (.int n) m'):Ok (bq.1 [.obj i,.int (sz:Int)] m) Q:=by
 have hlen:b.length-k=sz+r.length:=by rw [<- List.length_drop,hd];simp [aw]
 have t1:(b.drop k).take sz=bP sz n:=by rw [hd,List.take_append_of_le_length (by rw [aw];exact Kf),qV (by rw [aw];exact Kf)]
 have t2:b.drop (k+sz)=r:=by rw [<- List.drop_drop,hd,List.drop_append_of_le_length (by rw [aw];exact Kf),List.drop_of_length_le (by rw [aw];exact Kf),List.nil_append]
 have hn:numOf ((b.drop k).take sz)=n:=by rw [t1];exact fz h0 h1
 have:=mW S (n:=sz) (by exact ZK hs hlen) hb hs.2 (by rw [hn];exact ZL h2);rw [hn] at this;exact Ok.ex this fun m' ⟨x,S'⟩=>q m' S' t2 x (S.nk x)
theorem NU(m:MH):vA (.tup [.int 0,.int 0]) (.tup [.int 0,.int 0]) m=some (true,m):=by kernel_rfl!
def jk(n:Nat)(m:MH)(v:MV)(g:Int):Prop:=∃i j,v= .obj i/\vP m i j "disk" g 0 []/\n<=i/\n<=j
def lg(n:Nat)(m:MH)(v:MV)(T:Top):Prop:=∃i j xs,v= .obj i/\vP m i j (gH T.s) T.g (T.p:Int) xs/\F2 (jk n m) xs T.ks/\n<=i/\n<=j
def jl(n:Nat)(m:MH)(v:MV)(C:ea):Prop:=∃i j xs,v= .obj i/\Gm m i j (strOf C.name) C.gS C.ed xs/\F2 (lg n m) xs C.fa/\n<=i/\n<=j
section
variable {n n':Nat}{m m':MH}{v:MV}
theorem jk.up(h:jk n m v g)(x:NK m m')(hn:n'<=n):jk n' m' v g:=h.imp fun O=>Exists.imp fun O=>And.imp_right fun h=>⟨x.nd h.1,jc hn h.2.1,jc hn h.2.2⟩
theorem lg.up{g:Top}(h:lg n m v g)(x:NK m m')(hn:n'<=n):lg n' m' v g:=h.imp fun O=>Exists.imp fun O=>Exists.imp fun O=>And.imp_right fun h=>⟨x.nd h.1,h.2.1.mono fun O O c=>c.up x hn,jc hn h.2.2.1,jc hn h.2.2.2⟩
theorem jl.up{g:ea}(h:jl n m v g)(x:NK m m')(hn:n'<=n):jl n' m' v g:=h.imp fun O=>Exists.imp fun O=>Exists.imp fun O=>And.imp_right fun h=>⟨x.cf h.1,h.2.1.mono fun O O c=>c.up x hn,jc hn h.2.2.1,jc hn h.2.2.2⟩
theorem jk.to(h:jk n m v g):iy m v g:=h.imp fun O=>Exists.imp fun O=>And.imp_right And.left
theorem lg.to{g:Top}(h:lg n m v g):mL m v g:=h.imp fun O=>Exists.imp fun O=>Exists.imp fun O=>And.imp_right fun h=>⟨h.1,h.2.1.mono fun O O c=>c.to⟩
theorem jl.to{g:ea}(h:jl n m v g):eZ m v g:=h.imp fun O=>Exists.imp fun O=>Exists.imp fun O=>And.imp_right fun h=>⟨h.1,h.2.1.mono fun O O c=>c.to⟩
end
theorem wR(S:fw m i b k)(hd:b.drop k=pS g++r)(hg:0<=g/\g<2 ^ 32)(hb:b.length<=1000):
  Ok (nZ.1 [.obj i,.int 1] m) fun v m'=>jk m.n m' v g/\fk (i+1) m m'/\NK m m'/\fw m' i b (k+7)/\b.drop (k+7)=r:=by
 dsimp only [nZ];refine Ok.cps fun Q hq=> ?_;refine Ok.dc (eN rfl) (by keq_hits) ?_;unfold pS at hd;simp only [List.append_assoc] at hd;refine az fun zG=> ?_;obtain⟨a0,r0,_⟩:=id S;refine zG ?_;lcg_off;refine h_ (sz:=1) S hd (by decide) (by decide) (by decide) (by decide) hb fun m1 S1 d1 x1 k1=> ?_;refine az fun zG=> ?_;obtain⟨a0,r0,_⟩:=id S1;refine zG ?_;lcg_off;refine h_ (sz:=4) S1 d1 (by exact Po hg) (by exact Pp hg) (by exact TP hg) (by decide) hb fun m2 S2 d2 x2 k2=> ?_;refine az fun zG=> ?_;obtain⟨a0,r0,_⟩:=id S2;refine zG ?_;lcg_off;refine h_ (sz:=1) S2 d2 (by decide) (by decide) (by decide) (by decide) hb fun m3 S3 d3 x3 k3=> ?_;refine az fun zG=> ?_;obtain⟨a0,r0,_⟩:=id S3;refine zG ?_;lcg_off;refine h_ (sz:=1) S3 d3 (by decide) (by decide) (by decide) (by decide) hb fun m4 S4 d4 x4 k4=> ?_;refine az fun zG=> ?_;obtain⟨a0,r0,_⟩:=id S4;refine zG ?_;lcg_off;refine(jA m4).nl ?_;intro o5 m5 _ _ h5 x5;lcg_off;refine Ok.of (a:= .int 3) (by show uA m5 (m5.ob _)=_;rw [h5];rfl) ?_;lcg_off;refine(jA m5).nl ?_;intro o6 m6 _ _ h6 x6;lcg_off;refine Ok.qg h6 (bR rfl) (v:= .str "disk") rfl ?_;lcg_off;refine Ok.of (NU _) ?_;lcg_off;have S6:=(S4.keep x5).keep x6;refine Ok.DV 0 (fun O=>True) (fun k ys m1=>m1=m6/\ys= []) (bR rfl) ?_ trivial ?_ ?_
 ·lcg_off;refine Ok.of (a:= .pk 0 0) rfl ?_;lcg_off;exact⟨rfl,rfl,rfl⟩
 ·intro k ys fr m h
  omega
 ·rintro ys _ ⟨rfl,rfl⟩;lcg_off;refine Ok.ex (qN (bc _ _) (Nat.lt_succ_self _) (by simp)) fun m7 hq=> ?_;obtain⟨x7,N7⟩:=hq;lcg_off;have E:=(((fk.of (j:=i+1) (x5.trans x6)).trans (.of (.new _ (.list [])))).trans (.of x7));have X:=(((x1.trans x2).trans x3).trans x4).trans E;have hX:=X.n;have K7:=((x1.trans x2).trans x3).n;have wU:=x4.n;have hn5:=(x5.trans x6).n;exact⟨⟨_,_,rfl,N7,by rw [eu];omega,by rw [eu];omega⟩,X,((k1.trans k2).trans (k3.trans k4)).trans (S4.nk E),((S6.keep (.new _ _)).keep x7),d4⟩
structure JV (T:Top):Prop extends TopOK T where
 r:(T.s=0/\T.ks= []/\T.p=0)\/(T.s=1/\2<=T.ks.length/\T.p=0)\/(T.s=2/\1<=T.p/\T.p<=3/\T.p<T.ks.length)
theorem yv{T:Top}(S:fw m i b k)(hd:b.drop k=ip T++r)(hT:JV T)(hb:b.length<=1000):
  Ok (n_.1 [.obj i,.int 0] m) fun v m'=>lg m.n m' v T/\fk (i+1) m m'/\NK m m'/\fw m' i b (k+(ip T).length)/\b.drop (k+(ip T).length)=r:=by
 have hl:=hT.l;have Vu:=hT.s;have hg:=hT.g;have hp:=hT.p;dsimp only [n_];refine Ok.cps fun Q hq=> ?_;refine Ok.dc (eN rfl) (by keq_hits) ?_;unfold ip at hd;simp only [List.append_assoc] at hd;refine az fun zG=> ?_;obtain⟨a0,r0,_⟩:=id S;refine zG ?_;lcg_off;refine h_ (sz:=1) S hd (by exact O2) (by exact RK Vu) (by exact ZM Vu) (by decide) hb fun m1 S1 d1 x1 k1=> ?_;refine az fun zG=> ?_;obtain⟨a0,r0,_⟩:=id S1;refine zG ?_;lcg_off;refine h_ (sz:=4) S1 d1 (by exact Po hg) (by exact Pp hg) (by exact TP hg) (by decide) hb fun m2 S2 d2 x2 k2=> ?_;refine az fun zG=> ?_;obtain⟨a0,r0,_⟩:=id S2;refine zG ?_;lcg_off;refine h_ (sz:=1) S2 d2 (by exact O2) (by exact RL hp) (by exact ZN hp) (by decide) hb fun m3 S3 d3 x3 k3=> ?_;refine az fun zG=> ?_;obtain⟨a0,r0,_⟩:=id S3;refine zG ?_;lcg_off;refine h_ (sz:=1) S3 d3 (by exact O2) (by exact RA hl) (by exact RC hl) (by decide) hb fun m4 S4 d4 x4 k4=> ?_;refine az fun zG=> ?_;obtain⟨a0,r0,_⟩:=id S4;refine zG ?_;lcg_src;refine bL.test (Ok.mono (Q:=fun v m'=>v=false/\Ext m4 m') ?_ ?_)
 ·lcg_off;refine(jA m4).nl ?_;intro o5 m5 _ _ h5 x5;lcg_off;refine Ok.of (a:= .int 3) (by show uA m5 (m5.ob _)=_;rw [h5];rfl) ?_
  by_cases hz:T.s=0
  ·lcg_off;exact⟨rfl,x5⟩
  ·lcg_off;exact⟨rfl,x5⟩
 rintro _ m5 ⟨rfl,x5⟩;lcg_src;refine(jA m5).nl ?_;intro o6 m6 _ _ h6 x6;lcg_src;refine Ok.qg h6 (by exact Cx Vu) (v:= .str (gH T.s)) ?_ ?_
 ·rcases hT.r with⟨h,_⟩|⟨h,_⟩|⟨h,_⟩ <;> rw [h] <;> rfl
 lcg_src;refine bL.test (Ok.mono (Q:=fun v m'=>v=false/\m'=m6) ?_ ?_)
 ·rcases hT.r with⟨h,hk,K8⟩|⟨h,hk,K8⟩|⟨h,hk,K8⟩
  ·have e:gH T.s="disk":=by rw [h];rfl
   rw [e,hk,K8];lcg_off;refine Ok.of (NU _) ?_;lcg_off;exact⟨rfl,rfl⟩
  ·have e:gH T.s="mirror":=by rw [h];rfl
   rw [e];lcg_off;exact⟨rfl,rfl⟩
  ·have e:gH T.s="raidz":=by rw [h];rfl
   rw [e];lcg_off;exact⟨rfl,rfl⟩
 rintro _ m6' ⟨rfl,e6⟩;cases e6;lcg_src;refine bL.test (Ok.mono (Q:=fun v m'=>v=false/\m'=m6) ?_ ?_)
 ·rcases hT.r with⟨h,hk,K8⟩|⟨h,hk,K8⟩|⟨h,hk,K8,hp3⟩
  ·have e:gH T.s="disk":=by rw [h];rfl
   rw [e];lcg_off;exact⟨rfl,rfl⟩
  ·have e:gH T.s="mirror":=by rw [h];rfl
   rw [e];lcg_off;exact⟨rfl,rfl⟩
  ·have e:gH T.s="raidz":=by rw [h];rfl
   rw [e];lcg_off;refine Ok.of (a:= .int (if((T.ks.length:Int)-1)<3 then((T.ks.length:Int)-1) else 3)) rfl ?_;refine Ok.SY (by split <;> omega) ?_;lcg_off;exact⟨rfl,rfl⟩
 rintro _ m6' ⟨rfl,e6⟩;cases e6;have S6:=(S4.keep x5).keep x6;have k6:=((k1.trans k2).trans (k3.trans k4)).trans ((NK.of x5).trans (.of x6));have X6:=(((x1.trans x2).trans x3).trans x4).trans (.of (x5.trans x6));obtain⟨k0,hk0⟩:∃k0,k0=k:=⟨_,rfl⟩;lcg_off;refine Ok.DV T.ks.length (fun fr=>∃o,fr= [o,some (.obj i),some (.int 0)]) (fun k ys m1=>fk (i+1) m m1/\NK m m1/\∃at',at'=k0+7+7*k/\fw m1 i b at'/\b.drop at'=(T.ks.drop k).flatMap pS++r/\F2 (jk m.n m1) ys (T.ks.take k)) (by exact lk hl) ?_ ⟨_,rfl⟩ ?_ ?_
 ·lcg_off;refine Ok.of (a:= .pk 0 T.ks.length) rfl ?_;lcg_off;exact⟨rfl,X6,k6,_,by exact ZO hk0,S6,d4,.nil⟩
 ·intro k' ys fr m7 hk jJ gQ U hj;refine az fun zG=> ?_;obtain⟨X7,k7,at',yl,S7,d7,F7⟩:=jJ;obtain⟨o,rfl⟩:=gQ;refine zG ?_;lcg_off;obtain⟨g,wV⟩:∃g,T.ks[k']? =some g:=⟨_,iq hk⟩;have Vv:T.ks.drop k'=g::T.ks.drop (k'+1):=by
   rw [List.drop_eq_getElem_cons hk];rw [iq hk] at wV
   injection wV with wV
   rw [wV]
  rw [Vv,List.flatMap_cons,List.append_assoc] at d7;refine(wR S7 d7 (hT.ks _ (jC wV)) hb).mono ?_;intro v m8 fN;refine az fun zG=> ?_;obtain⟨L8,x8,k8,S8,d8⟩:=fN;refine zG ?_;lcg_off;exact⟨⟨_,rfl⟩,X7.trans x8,k7.trans k8,_,by exact ZP yl,S8,d8,by rw [cW wV];exact(F7.mono fun O O a=>a.up k8 (dU _)).snoc (L8.up (.refl _) X7.n)⟩
 ·intro ys m7 fN;refine az fun zG=> ?_;obtain⟨X7,k7,at',yl,S7,d7,F7⟩:=fN;refine zG ?_;rw [hF] at F7;rw [List.drop_length,List.flatMap_nil,List.nil_append] at d7;lcg_off;refine Ok.ex (qN (bc _ _) (gA _) (by rw [F7.len];exact Pg hl)) fun m8 hq=> ?_;obtain⟨x8,N8⟩:=hq;lcg_off;have e7:=(Ext.new m7 (.list ys)).trans x8;have aeH:k+(ip T).length=at':=by rw [qh];exact ZQ hk0 yl
  rw [aeH];have hX7:=X7.n;exact⟨⟨_,_,_,rfl,N8,F7.mono fun O O a=>a.up (.of e7) (dU _),by rw [eu];exact O72 hX7,by rw [eu];exact ZR hX7⟩,X7.trans (.of e7),k7.trans (.of e7),S7.keep e7,d7⟩
end
section
variable {C:Addr}{xs:List MV}{m:MH}{Q:MV->MH->Prop}{i:Nat}
theorem Ok.new{ci:List MV->MM MV}(h:Ok (ci (.obj m.n::xs) ((m.new (.inst C)).new (.dP []))) fun v m'=>v= .none/\Q (.obj m.n) m'):Ok (Js C ci xs m) Q:=by
 refine az fun zG=> ?_;obtain⟨v,m',e,rfl,q⟩:=h;refine zG ?_;exact⟨_,m',sE e,q⟩
theorem Ok.gq{QU:Unit->MH->Prop}{cs:List Addr}{k:Str}{fs fs':List (Str×MV)}{x:MV}(a:m.ob i= .inst C)(r:m.ob (i+1)= .dP fs)(hC:C∈cs)(hi:i<m.n)(hf:fs.length<=100)(e:vb k x fs=fs')
  (q:∀m',m'.ob i= .inst C->m'.ob (i+1)= .dP fs'->m'.n=m.n->(∀t,t≠i+1->m'.ob t=m.ob t)->QU () m'):Ok (p8 cs k (.obj i) x m) QU:=
 Ok.set a r hC hi hf (q _ ((cj (by exact O8)).trans a) (by rw [fL,e]) rfl fun t h=>cj h)
theorem Ok.lst(o:m.ob i= .list xs)(h:xs.length<=100000)(q:Q (.obj m.n) (m.new (.list xs))):Ok (DC (.obj i) m) Q:= .of ((cC o).trans (if_pos h)) q
theorem vQ{nm:Str}{g e:Int}{c:Nat}(hc:m.ob c= .list xs)(fZ:c<m.n)(hz:xs.length<=100000):
  Ok (uH.1 [.str nm,.int g,.obj c,.int e] m) fun v m'=>v= .obj m.n/\Ext m m'/\Gm m' m.n (m.n+2) nm g e xs:=by
 refine Ok.new ?_;obtain⟨m0,h0⟩:∃m0,m0=(m.new (.inst 254)).new (.dP []):=⟨_,rfl⟩;rw [<- h0];have n0:m0.n=m.n+2:=by rw [h0];rfl
 have a0:m0.ob m.n= .inst 254:=by rw [h0,cU (by rw [eu];exact Cy)];exact bc _ _
 have r0:m0.ob (m.n+1)= .dP []:=by rw [h0];exact bc (m.new (.inst 254)) _
 have o0:∀t,t<m.n->m0.ob t=m.ob t:=fun t ht=>by rw [h0,cU (by rw [eu];exact Kb ht),cU ht]
 dsimp only [rk];refine Ok.cps fun Q hq=> ?_;refine Ok.dc (eN rfl) (by keq_hits) ?_;lcg_off;refine Ok.gq a0 r0 (by decide) (by exact EA n0) (iZ rfl) rfl fun m1 a1 r1 n1 o1=> ?_;lcg_off;refine Ok.gq a1 r1 (bR rfl) (by exact TM n0 n1) (iZ rfl) rfl fun m2 a2 r2 n2 o2=> ?_;lcg_off;refine Ok.lst (i:=c) (by rw [o2 _ (by exact O1 fZ),o1 _ (by exact O1 fZ),o0 _ fZ];exact hc) hz ?_;have a3:=(cU (m:=m2) (o:= .list xs) (i:=m.n) (by exact Rq n0 n1 n2)).trans a2;have r3:=(cU (m:=m2) (o:= .list xs) (i:=m.n+1) (by exact Ze n0 n1 n2)).trans r2;lcg_off;refine Ok.gq a3 r3 (by decide) (by rw [eu];exact Zf n0 n1 n2) (iZ rfl) rfl fun m3 a3 r3 n3 o3=> ?_;lcg_off;rw [eu] at n3;refine Ok.gq a3 r3 (by decide) (by exact Zg n0 n1 n2 n3) (iZ rfl) rfl fun m4 a4 r4 n4 o4=> ?_;lcg_off;refine⟨rfl,rfl,⟨by exact Zh n0 n1 n2 n3 n4,fun t ht=> ?_⟩,a4, ?_, ?_,by exact Zi n0 n1 n2 n3 n4⟩
 ·rw [o4 _ (by exact O1 ht),o3 _ (by exact O1 ht),cU (by exact Zj n0 n1 n2 ht),o2 _ (by exact O1 ht),o1 _ (by exact O1 ht),o0 _ ht]
 ·rw [r4,n2,n1,n0];rfl
 ·rw [o4 _ (by exact EB),o3 _ (by exact EB), <- n0, <- n1, <- n2];exact bc _ _
structure uK (C:ea):Prop extends ConfOK C where
 tr:∀T∈C.fa,JV T
 ne:C.fa≠ []
theorem qi{C:ea}(h:ConfOK C):(gn C).length<=900:=by
 have rW:=As (l:=C.fa) (f:=ip) (c:=77) fun x hx=>Ar (h.t _ hx);have:=h.l;have:=h.nl;unfold gn;simp only [List.length_append,aw,List.length_map];exact Zk rW (by assumption) this
theorem pT{C:ea}(hC:uK C):Ok (jU.1 [.bytes (gn C)] m) fun v m'=>jl m.n m' v C/\Ext m m':=by
 have hl:=hC.l;have DK:=hC.nl;have hg:=hC.g;have he:=hC.e;have hb:(gn C).length<=1000:=by have:=qi hC.toConfOK;exact Zl this
 have i6:C.fa.length≠0:=fun h=>hC.ne (List.length_eq_zero_iff.mp h);have d0:(gn C).drop 0=bP 4 1953654117++(bP 1 1++((bP 1 C.name.length++C.name.map fun c=>c.toUInt8)++(bP 8 C.gS++(bP 4 C.ed++(bP 1 C.fa.length++C.fa.flatMap ip))))):=rfl;generalize hB:gn C=b at d0 hb;dsimp only [jU];refine Ok.cps fun Q hq=> ?_;refine Ok.dc (eN rfl) (by keq_hits) ?_;lcg_off;refine Ok.ex (DT b m) ?_;rintro m0 ⟨x0,S0⟩;have K7:=S0.l;refine az fun zG=> ?_;obtain⟨a0,r0,_⟩:=id S0;refine zG ?_;lcg_off;refine h_ (sz:=4) S0 d0 (bR rfl) (bR rfl) (bR rfl) (bR rfl) hb fun m1 S1 d1 x1 k1=> ?_;refine az fun zG=> ?_;obtain⟨a0,r0,_⟩:=id S1;refine zG ?_;lcg_off;refine h_ (sz:=1) S1 d1 (bR rfl) (bR rfl) (bR rfl) (bR rfl) hb fun m2 S2 d2 x2 k2=> ?_;refine az fun zG=> ?_;obtain⟨a0,r0,_⟩:=id S2;refine zG ?_;lcg_off;refine Ok.ex (vO S2 d2 hC.nm (by exact lk DK) hb) fun m3 hq=> ?_;obtain⟨x3,S3⟩:=hq;have d3:b.drop (0+4+1+1+C.name.length)=bP 8 C.gS++(bP 4 C.ed++(bP 1 C.fa.length++C.fa.flatMap ip)):=by
  rw [show 0+4+1+1+C.name.length=(0+4+1)+(1+C.name.length) by exact Zm, <- List.drop_drop,d2];exact List.drop_left' (by simp only [List.length_append,aw,List.length_map])
 have k3:=S2.nk x3;refine az fun zG=> ?_;obtain⟨a0,r0,_⟩:=id S3;refine zG ?_;lcg_off;refine h_ (sz:=8) S3 d3 (by exact Zn hg) (by exact Zo hg) (by exact Zp hg) (bR rfl) hb fun m4 S4 d4 x4 k4=> ?_;refine az fun zG=> ?_;obtain⟨a0,r0,_⟩:=id S4;refine zG ?_;lcg_off;refine h_ (sz:=4) S4 d4 (by exact Po he) (by exact Pp he) (by exact TP he) (by decide) hb fun m5 S5 d5 x5 k5=> ?_;refine az fun zG=> ?_;obtain⟨a0,r0,_⟩:=id S5;refine zG ?_;lcg_off;refine h_ (sz:=1) S5 (r:=C.fa.flatMap ip++ []) (by rw [List.append_nil];exact d5) (by exact O2) (by exact RA hl) (by exact RC hl) (by decide) hb fun m6 S6 d6 x6 k6=> ?_;have X6:=((((x1.trans x2).trans x3).trans x4).trans x5).trans x6;refine az fun zG=> ?_;obtain⟨a0,r0,_⟩:=id S6;refine zG ?_;lcg_off;refine Ok.DV C.fa.length (fun fr=>∃o,fr= [o,some (.obj m.n)]) (fun k ys m1=>fk (m.n+1) m0 m1/\∃at',fw m1 m.n b at'/\b.drop at'=(C.fa.drop k).flatMap ip++ []/\F2 (lg m.n m1) ys (C.fa.take k)) (by exact lk hl) ?_ ⟨_,rfl⟩ ?_ ?_
 ·lcg_off;refine Ok.of (a:= .pk 0 C.fa.length) rfl ?_;lcg_off;exact⟨rfl,X6,_,S6,d6,.nil⟩
 ·intro k' ys fr m7 hk jJ gQ U hj;refine az fun zG=> ?_;obtain⟨X7,at',S7,d7,F7⟩:=jJ;obtain⟨o,rfl⟩:=gQ;refine zG ?_;lcg_off;obtain⟨g,wV⟩:∃g,C.fa[k']? =some g:=⟨_,iq hk⟩;have Vv:C.fa.drop k'=g::C.fa.drop (k'+1):=by
   rw [List.drop_eq_getElem_cons hk];rw [iq hk] at wV
   injection wV with wV
   rw [wV]
  rw [Vv,List.flatMap_cons,List.append_assoc] at d7;refine(yv S7 d7 (hC.tr _ (jC wV)) hb).mono ?_;intro v m8 fN;refine az fun zG=> ?_;obtain⟨L8,x8,k8,S8,d8⟩:=fN;refine zG ?_;lcg_off;exact⟨⟨_,rfl⟩,X7.trans x8,_,S8,d8,by rw [cW wV];exact(F7.mono fun O O a=>a.up k8 (dU _)).snoc (L8.up (.refl _) (by have:=x0.n;have:=X7.n;exact Zq K7 this))⟩
 ·intro ys m7 fN;refine az fun zG=> ?_;obtain⟨X7,at',S7,d7,F7⟩:=fN;refine zG ?_;rw [hF] at F7;lcg_off;refine(vQ (bc _ _) (gA _) (by rw [F7.len];exact Pg hl)).q2 ?_;intro m8 x8 N8;lcg_off;have e7:=(Ext.new m7 (.list ys)).trans x8;have n0:=x0.n;have n7:=X7.n;refine⟨⟨_,_,_,rfl,N8,F7.mono fun O O a=>a.up (.of e7) (dU _),by rw [eu];exact Zr K7 n7,by rw [eu];exact Zs K7 n7⟩,⟨jc (jc n0 n7) e7.n,fun t ht=> ?_⟩⟩;rw [e7.ob t (by exact Zt K7 n7 ht),X7.ob t (by exact Zu K7 ht) (by exact O1 ht),x0.ob t ht]
end
section
variable {m:MH}{i:Nat}{xs:List MV}{a b g k p x:Int}{ks:List Int}{P:Plan}
section
variable {Q:MV->MH->Prop}{QB:Bool->MH->Prop}{m:MH}
theorem yL{x:MV}{T:String}{b:Bool}(h:UY x T m=some b):ub x (.fn (.type T)) m=some (.bool b,m):=by
 show(UY x T m).bind (fun b=>some (MV.bool b,m))=_;rw [h];rfl
theorem NW(xs:List MV)(m:MH):ub (.tup xs) (.fn (.type "tuple")) m=some (.bool true,m):=yL (by show(if "tuple"="tuple" then some true else none)=_;exact if_pos rfl)
theorem NX(x:Int)(m:MH):ub (.int x) (.fn (.type "int")) m=some (.bool true,m):=yL (by show(if "int"="int" then some true else if "int"="bool" then some false else none)=_;exact if_pos rfl)
theorem K_(x:Int)(m:MH):ub (.int x) (.fn (.type "bool")) m=some (.bool false,m):=yL (by show(if "bool"="int" then some true else if "bool"="bool" then some false else none)=_;exact(if_neg (bR rfl)).trans (if_pos rfl))
theorem NY(o:m.ob i= .list xs):ub (.obj i) (.fn (.type "list")) m=some (.bool true,m):=yL ((cC o).trans (by show(if "list"="list" then some true else none)=_;exact if_pos rfl))
theorem Ok.aeK(q:Q (.bool true) m):Ok (ub (.tup xs) (.fn (.type "tuple")) m) Q:= .of (NW _ _) q
theorem Ok.aeL(q:Q (.bool true) m):Ok (ub (.int x) (.fn (.type "int")) m) Q:= .of (NX _ _) q
theorem Ok.aeM(q:Q (.bool false) m):Ok (ub (.int x) (.fn (.type "bool")) m) Q:= .of (K_ _ _) q
theorem Ok.aeN(o:m.ob i= .list xs)(q:Q (.bool true) m):Ok (ub (.obj i) (.fn (.type "list")) m) Q:= .of (NY o) q
theorem Ok.aeO(q:Q (.int (-x)) m):Ok (SK (.int x) m) Q:= .of rfl q
theorem Ok.ins{k:Str}{ns:List Str}(b:Bool)(o:m.ob i= .list xs)(e:strsOf xs=some ns)(f:ns.any (· ==k)=b)(q:QB b m):Ok (FD (.str k) (.obj i) m) QB:= .of (aV ((cC o).trans ((aV e).trans (congrArg some f)))) q
theorem Ok.ini{ns:List Int}(b:Bool)(o:m.ob i= .list xs)(e:intsOf xs=some ns)(f:ns.any (· ==k)=b)(q:QB b m):Ok (FD (.int k) (.obj i) m) QB:= .of (aV (by show Qm k (m.ob i)=some b;rw [o];exact(aV e).trans (congrArg some f))) q
theorem Ok.inr(h:a<=k/\k<b)(q:QB true m):Ok (FD (.int k) (.pk a b) m) QB:= .of (a:=true) (aV (congrArg some (decide_eq_true h))) q
theorem Ok.QJ(q:Q (.pk 0 b) m):Ok (yJ [.int b] m) Q:= .of rfl q
theorem Ok.QK(q:Q (.pk a b) m):Ok (yJ [.int a,.int b] m) Q:= .of rfl q
theorem Ok.max2(q:Q (.int (if b>a then b else a)) m):Ok (Ni [.int a,.int b] m) Q:= .of rfl q
inductive sH:List MV->Nat->Prop where
 |nil:sH [] 0
 |cons {a:MV} {l:List MV} {k:Nat}:sH l k->sH (a::l) (k+1)
theorem sH.eq{l:List MV}{k:Nat}(h:sH l k):l.length=k:=by
 induction h with
 |nil=>rfl
 |cons _ ih=>rw [oK,ih]
theorem Ok.Vw{b:List MV}{k:Nat}(e:sH b k)(h:k<=100000)(q:Q (.int (k:Int)) m):Ok (vz [.tup b] m) Q:=by
 have:=e.eq;subst this;exact Ok.aet h q
end
noncomputable def Au(ks:List Int)(p:Int):Int:=ks.foldl (fun f g=>(f*31+g).fmod 4294967296) (17+p)
theorem mX{o:Nat}(h:m.ob o= .list (ks.map .int)):Ok (jI.1 [.obj o,.int p] m) fun v m'=>v= .int (Au ks p)/\m'=m:=by
 dsimp only [jI];refine Ok.cps fun Q hq=> ?_;refine Ok.dc (eN rfl) (by keq_hits) ?_;lcg_off;refine bL.forL o (ks.map .int) (fun k fr m1=>m1=m/\∃z,fr= [some (.obj o),some (.int p),some (.int ((ks.take k).foldl (fun f g=>(f*31+g).fmod 4294967296) (17+p))),z]) ?_ ?_ ?_ ?_
 ·lcg_off;exact⟨rfl,rfl,_,rfl⟩
 ·rintro k fr _ ⟨rfl,_⟩;exact h
 ·intro k v fr _ e jJ J hj;refine az fun zG=> ?_;obtain⟨rfl,z,rfl⟩:=jJ;refine zG ?_;rw [ja,nN] at e;refine az fun zG=> ?_;obtain⟨g,hg,rfl⟩:=e;refine zG ?_;lcg_off;exact⟨rfl,_,by rw [cW hg,List.foldl_append];rfl⟩
 ·intro fr _ fN;refine az fun zG=> ?_;obtain⟨rfl,z,rfl⟩:=fN;refine zG ?_;lcg_off;rw [eW,hF];exact⟨rfl,rfl⟩
theorem Ci(hp:0<=p/\p<256):0<=Au ks p/\Au ks p<2 ^ 32:=by
 have:∀(l:List Int) (a:Int),0<=a/\a<2 ^ 32->0<=l.foldl (fun f g=>(f*31+g).fmod 4294967296) a/\l.foldl (fun f g=>(f*31+g).fmod 4294967296) a<2 ^ 32:=by
  intro l
  induction l with
  |nil=>intro a h;exact h
  |cons b r ih=>exact fun a h=>ih _ ⟨Int.fmod_nonneg_of_pos _ (bR rfl),Int.fmod_lt_of_pos _ (bR rfl)⟩
 exact this ks _ (by exact YO hp)
noncomputable def eJ(g:Int):MV:= .tup [.str "disk",.int g]
theorem pU(hg:0<=g/\g<2 ^ 32):Ok (lY.1 [eJ g] m) fun v m'=>iy m' v g/\Ext m m':=by
 unfold eJ;dsimp only [lY];refine Ok.cps fun Q hq=> ?_;refine Ok.dc (eN rfl) (by keq_hits) ?_;lcg_off;refine Ok.ex (Gi) fun m' q=> ?_;lcg_off;exact⟨⟨_,_,rfl,q.2⟩,q.1⟩
inductive Plan where
 |mY (g:Int)|Gr (ks:List Int)|rz (ks:List Int)
def pg(m:MH)(v:MV):Plan->Prop
 | .mY g=>v=eJ g
 | .Gr ks=>∃l,v= .tup [.str "mirror",.obj l]/\l<m.n/\m.ob l= .list (ks.map eJ)
 | .rz ks=>∃l,v= .tup [.str "raidz",.int 1,.obj l]/\l<m.n/\m.ob l= .list (ks.map eJ)
def Av(g:Int):Prop:=0<=g/\g<2 ^ 32
def tA:Plan->Prop
 | .mY g=>Av g
 | .Gr ks=>2<=ks.length/\ks.length<=10/\∀g∈ks,Av g
 | .rz ks=>2<=ks.length/\ks.length<=10/\∀g∈ks,Av g
noncomputable def e9:Plan->Top
 | .mY g=>⟨0,g,0, []⟩
 | .Gr ks=>⟨1,Au ks 0,0,ks⟩
 | .rz ks=>⟨2,Au ks 1,1,ks⟩
theorem pg.keep{m':MH}{v:MV}(h:pg m v P)(x:Ext m m'):pg m' v P:=by
 cases P with
 |mY g=>exact h
 |Gr ks=>obtain⟨l,e,h1,h2⟩:=h;exact⟨l,e,eE h1 x.n,(x.ob _ h1).trans h2⟩
 |rz ks=>obtain⟨l,e,h1,h2⟩:=h;exact⟨l,e,eE h1 x.n,(x.ob _ h1).trans h2⟩
theorem Ti(h:tA P):JV (e9 P):=by
 cases P with
 |mY g=>exact⟨⟨by simp [e9],h,by simp [e9],by simp [e9],by simp [e9]⟩,.inl ⟨rfl,rfl,rfl⟩⟩
 |Gr ks=>exact⟨⟨by simp [e9],Ci (of_decide_eq_true rfl),by simp [e9],h.2.2,h.2.1⟩,.inr (.inl ⟨rfl,h.1,rfl⟩)⟩
 |rz ks=>exact⟨⟨by simp [e9],Ci (of_decide_eq_true rfl),by simp [e9],h.2.2,h.2.1⟩,.inr (.inr ⟨rfl,by simp [e9],by simp [e9],h.1⟩)⟩
theorem Bw(hg:Av g):Ok (kG.1 [eJ g] m) fun v m'=>iy m' v g/\Ext m m':=by
 have hd:=fun m=>pU (m:=m) hg;unfold eJ at hd ⊢;dsimp only [kG];refine Ok.cps fun Q hq=> ?_;refine Ok.dc (eN rfl) (by keq_hits) ?_;lcg_off;refine(jA m).nl ?_;intro o1 m1 _ _ h1 x1;refine Ok.DW (Ok.ins true h1 rfl rfl ?_);lcg_off;refine(hd m1).k2 ?_;intro v m2 L x2;lcg_off;exact⟨L,x1.trans x2⟩
end
section
theorem Gs{m:MH}{v:MV}{P:Plan}(h:pg m v P)(hP:tA P):Ok (kG.1 [v] m) fun v m'=>mL m' v (e9 P)/\Ext m m':=by
 cases P with
 |mY g=>
  have h':v=eJ g:=h;subst h';exact(Bw hP).mono fun v m' ⟨⟨i,j,e,N⟩,x⟩=>⟨⟨i,j, [],e,N,.nil⟩,x⟩
 |Gr ks=>
  refine az fun zG=> ?_;obtain⟨l,rfl,hl,ho⟩:=h;refine zG ?_;refine az fun zG=> ?_;obtain⟨KX,vR,uk⟩:=hP;refine zG ?_;dsimp only [kG];refine Ok.cps fun Q hq=> ?_;refine Ok.dc (eN rfl) (by keq_hits) ?_;lcg_off;refine(jA m).nl ?_;intro o1 m1 _ _ h1 x1;refine Ok.DW (Ok.ins true h1 rfl rfl ?_);have u9:=(x1.ob _ hl).trans ho;lcg_off;refine Ok.kl l (ks.map eJ) (fun fr=>∃o,fr= [o]) (fun k ys m2=>Ext m1 m2/\F2 (iy m2) ys (ks.take k)) (by simp;exact Pg vR) ?_ ⟨_,rfl⟩ ?_ ?_ ?_
  ·lcg_off;exact⟨rfl,.refl _,.nil⟩
  ·rintro k ys m2 ⟨x2,_⟩;exact(x2.ob _ (eE hl x1.n)).trans u9
  ·intro k v ys fr m2 e gQ lM U hj;refine az fun zG=> ?_;obtain⟨x2,vS⟩:=gQ;obtain⟨o,rfl⟩:=lM;refine zG ?_;rw [ja,nN] at e;refine az fun zG=> ?_;obtain⟨g,hg,rfl⟩:=e;refine zG ?_;lcg_off;refine(pU (uk _ (jC hg))).k2 ?_;intro v m3 L x3;lcg_off;exact⟨⟨_,rfl⟩,x2.trans x3,by rw [cW hg];exact(vS.mono fun O O a=>a.keep (.of x3)).snoc L⟩
  rintro ys m2 ⟨x2,F⟩;rw [eW,hF] at F;have kf:=F.len;have hc:=bc m2 (.list ys);have F':=F.mono fun O O a=>iy.keep a (.of (.new m2 (.list ys)));lcg_off;refine Ok.xF hc (by exact Ez vR kf) ?_;lcg_off;refine Ok.kl m2.n ys (fun fr=>∃o,fr= [o]) (fun k zs m3=>m3=m2.new (.list ys)/\zs=(ks.take k).map .int) (by exact Ez vR kf) ?_ ⟨_,rfl⟩ ?_ ?_ ?_
  ·lcg_off;exact⟨rfl,rfl,rfl⟩
  ·rintro k zs m3 ⟨rfl,_⟩;exact hc
  ·intro k v zs fr m3 e gQ lM U hj;refine az fun zG=> ?_;obtain⟨rfl,rfl⟩:=gQ;obtain⟨o,rfl⟩:=lM;refine zG ?_;refine az fun zG=> ?_;obtain⟨g,hg,⟨i2,j2,rfl,a2,r2,c2,l2⟩⟩:=F'.get e;refine zG ?_;lcg_off;exact⟨⟨_,rfl⟩,rfl,by rw [cW hg,jb];rfl⟩
  rintro zs m3 ⟨rfl,rfl⟩;rw [kf,hF];generalize sM:(m2.new (.list ys)).new (.list (ks.map .int))=m4;have o4:m4.ob (m2.new (.list ys)).n= .list (ks.map .int):=by rw [<- sM];exact bc _ _
  have NZ:m4.ob m2.n= .list ys:=by rw [<- sM,cU (by rw [eu];exact Cy)];exact hc
  have n4:m4.n=m2.n+2:=by rw [<- sM];rfl
  have x4:Ext m2 m4:=by rw [<- sM];exact(Ext.new _ _).trans (.new _ _)
  lcg_off;refine(mX o4).q1 ?_;rintro _ rfl;lcg_off;refine Ok.ex (qN NZ (by exact EA n4) (by exact Ez vR kf)) fun m5 hq=> ?_;obtain⟨x5,N5⟩:=hq;lcg_off;exact⟨⟨_,_,_,rfl,N5,F.mono fun O O a=>a.keep (.of (x4.trans x5))⟩,((x1.trans x2).trans x4).trans x5⟩
 |rz ks=>
  refine az fun zG=> ?_;obtain⟨l,rfl,hl,ho⟩:=h;refine zG ?_;refine az fun zG=> ?_;obtain⟨KX,vR,uk⟩:=hP;refine zG ?_;dsimp only [kG];refine Ok.dc (eN rfl) (by keq_hits) ?_;lcg_off;refine(jA m).nl ?_;intro o1 m1 _ _ h1 x1;refine Ok.DW (Ok.ins true h1 rfl rfl ?_);have u9:=(x1.ob _ hl).trans ho;lcg_off;refine Ok.kl l (ks.map eJ) (fun fr=>∃o,fr= [o]) (fun k ys m2=>Ext m1 m2/\F2 (iy m2) ys (ks.take k)) (by simp;exact Pg vR) ?_ ⟨_,rfl⟩ ?_ ?_ ?_
  ·lcg_off;exact⟨rfl,.refl _,.nil⟩
  ·rintro k ys m2 ⟨x2,_⟩;exact(x2.ob _ (eE hl x1.n)).trans u9
  ·intro k v ys fr m2 e gQ lM U hj;refine az fun zG=> ?_;obtain⟨x2,vS⟩:=gQ;obtain⟨o,rfl⟩:=lM;refine zG ?_;rw [ja,nN] at e;refine az fun zG=> ?_;obtain⟨g,hg,rfl⟩:=e;refine zG ?_;lcg_off;refine(pU (uk _ (jC hg))).k2 ?_;intro v m3 L x3;lcg_off;exact⟨⟨_,rfl⟩,x2.trans x3,by rw [cW hg];exact(vS.mono fun O O a=>a.keep (.of x3)).snoc L⟩
  rintro ys m2 ⟨x2,F⟩;rw [eW,hF] at F;have kf:=F.len;have hc:=bc m2 (.list ys);have F':=F.mono fun O O a=>iy.keep a (.of (.new m2 (.list ys)));lcg_off;refine Ok.inr (bR rfl) ?_;lcg_off;refine Ok.xF hc (by exact Ez vR kf) ?_;lcg_off;refine Ok.kl m2.n ys (fun fr=>∃o,fr= [o]) (fun k zs m3=>m3=m2.new (.list ys)/\zs=(ks.take k).map .int) (by exact Ez vR kf) ?_ ⟨_,rfl⟩ ?_ ?_ ?_
  ·lcg_off;exact⟨rfl,rfl,rfl⟩
  ·rintro k zs m3 ⟨rfl,_⟩;exact hc
  ·intro k v zs fr m3 e gQ lM U hj;refine az fun zG=> ?_;obtain⟨rfl,rfl⟩:=gQ;obtain⟨o,rfl⟩:=lM;refine zG ?_;refine az fun zG=> ?_;obtain⟨g,hg,⟨i2,j2,rfl,a2,r2,c2,l2⟩⟩:=F'.get e;refine zG ?_;lcg_off;exact⟨⟨_,rfl⟩,rfl,by rw [cW hg,jb];rfl⟩
  rintro zs m3 ⟨rfl,rfl⟩;rw [kf,hF];generalize sM:(m2.new (.list ys)).new (.list (ks.map .int))=m4;have o4:m4.ob (m2.new (.list ys)).n= .list (ks.map .int):=by rw [<- sM];exact bc _ _
  have NZ:m4.ob m2.n= .list ys:=by rw [<- sM,cU (by rw [eu];exact Cy)];exact hc
  have n4:m4.n=m2.n+2:=by rw [<- sM];rfl
  have x4:Ext m2 m4:=by rw [<- sM];exact(Ext.new _ _).trans (.new _ _)
  lcg_off;refine(mX o4).q1 ?_;rintro _ rfl;lcg_off;refine Ok.ex (qN NZ (by exact EA n4) (by exact Ez vR kf)) fun m5 hq=> ?_;obtain⟨x5,N5⟩:=hq;lcg_off;exact⟨⟨_,_,_,rfl,N5,F.mono fun O O a=>a.keep (.of (x4.trans x5))⟩,((x1.trans x2).trans x4).trans x5⟩
end
section
variable {i:Nat}{m:MH}
theorem mn(ns:List Int):intsOf (ns.map MV.int)=some ns:=by
 induction ns with
 |nil=>rfl
 |cons a r ih=>exact(aV (f:=fun ns=>some (_::ns)) ih)
section
variable {Q:MV->MH->Prop}{QB:Bool->MH->Prop}{m:MH}
theorem Ok.aeQ{ns:List Int}(o:m.ob i= .list (ns.map .int))(h:ns.length<=4000)(q:Q (.obj m.n) (m.new (.tR (distinct ns)))):Ok (Nq (.obj i) m) Q:= .of ((cC o).trans ((aV (mn _)).trans (if_pos h))) q
theorem Ok.IJ{j:Nat}{xs ys:List MV}(oi:m.ob i= .list xs)(oj:m.ob j= .list ys)(h:xs.length≠ys.length)(q:QB false m):Ok (vA (.obj i) (.obj j) m) QB:= .of (aV ((cC oi).trans ((cC oj).trans (if_neg h)))) q
end
noncomputable def iz(Ps:List Plan):List Int:=Ps.flatMap fun P=>gy (e9 P)
theorem nr{P:Plan}(h:tA P):(e9 P).ks.length<=10:=(Ti h).l
theorem jK{nm:List Nat}{g e:Int}{l:Nat}{vs:List MV}{Ps:List Plan}(hl:l<m.n)(ho:m.ob l= .list vs)(F:F2 (pg m) vs Ps)(hP:∀P∈Ps,tA P)(hn:Ps≠ [])(hz:Ps.length<=10)(hd:distinct (iz Ps)=(iz Ps).length):
  Ok (fQ.1 [.str (strOf nm),.int g,.obj l,.int e] m) fun v m'=>eZ m' v ⟨nm,g,e,Ps.map e9⟩/\Ext m m':=by
 have QL:=F.len;have wd:Ps.length≠0:=fun h=>hn (List.length_eq_zero_iff.mp h);dsimp only [fQ];refine Ok.cps fun Q hq=> ?_;refine Ok.dc (eN rfl) (by keq_hits) ?_;lcg_off;refine Ok.kl l vs (fun fr=>∃o,fr= [o]) (fun k ys m2=>Ext m m2/\F2 (mL m2) ys ((Ps.take k).map e9)) (by exact Ez hz QL) ?_ ⟨_,rfl⟩ ?_ ?_ ?_
 ·lcg_off;exact⟨rfl,.refl _,.nil⟩
 ·rintro k ys m2 ⟨x2,_⟩;exact(x2.ob _ hl).trans ho
 ·intro k v ys fr m2 e gQ lM U hj;refine az fun zG=> ?_;obtain⟨x2,vS⟩:=gQ;obtain⟨o,rfl⟩:=lM;refine zG ?_;refine az fun zG=> ?_;obtain⟨P,HD,L⟩:=F.get e;refine zG ?_;lcg_off;refine(Gs (L.keep x2) (hP _ (jC HD))).k2 ?_;intro v m3 L x3;lcg_off;exact⟨⟨_,rfl⟩,x2.trans x3,by rw [cW HD,jb];exact(vS.mono fun O O a=>a.keep (.of x3)).snoc L⟩
 rintro ys m2 ⟨x2,FT⟩;rw [QL,hF] at FT;have kf:=FT.len;rw [eW] at kf;generalize Aw:m2.new (.list ys)=m3;have o3:m3.ob m2.n= .list ys:=by rw [<- Aw];exact bc _ _
 have n3:m3.n=m2.n+1:=by rw [<- Aw];rfl
 have x3:Ext m2 m3:=by rw [<- Aw];exact .new _ _
 have FT3:=FT.mono fun O O a=>mL.keep a (.of x3);lcg_off;refine bL.forL m2.n ys (fun k fr m4=>∃z,fr= [some (.str (strOf nm)),some (.int g),some (.obj l),some (.int e),some (.obj m2.n),some (.obj m3.n),z]/\Ext m3 m4/\m3.n<m4.n/\m4.ob m3.n= .list ((iz (Ps.take k)).map .int)) ?_ ?_ ?_ ?_
 ·lcg_off;exact⟨rfl,_,rfl,.new _ _,gA _,bc _ _⟩
 ·intro k fr m4 mM;refine az fun zG=> ?_;obtain⟨z,rfl,x4,_⟩:=mM;refine zG ?_;exact(x4.ob _ (by exact O7 n3)).trans o3
 ·intro k v fr m4 e jJ J hj;refine az fun zG=> ?_;obtain⟨z,rfl,x4,h4,o4⟩:=jJ;refine zG ?_;refine az fun zG=> ?_;obtain⟨T,hT,L⟩:=FT3.get e;refine zG ?_;rw [ja,nN] at hT;refine az fun zG=> ?_;obtain⟨P,HD,rfl⟩:=hT;refine zG ?_;have Tj:=hP _ (jC HD);lcg_off;refine(sJ (L.keep (.of x4)) (by have:=nr Tj;exact Hc this)).nl ?_;intro o5 m5 _ _ h5 x5;have NZ:=(x5.ob _ h4).trans o4;lcg_off;have b1:(iz (Ps.take k)).length<=100*(Ps.take k).length:=tv (l:=Ps.take k) fun P h=>iQ (by have:=nr (hP P (List.mem_of_mem_take h));exact Hc this);have b2:(Ps.take k).length<=10:=by rw [ig];exact TJ hz
  have b3:=iQ (T:=e9 P) (by have:=nr Tj;exact Hc this);refine Ok.NN NZ h5 ⟨by rw [eW,eW];exact W8 b1 b2 b3,eE h4 x5.n⟩ ?_;lcg_off;refine⟨_,rfl,(x4.trans x5).pb (dU _),eE h4 x5.n, ?_⟩;rw [fL];unfold iz;rw [qO HD,jb]
 ·intro fr m4 fN;refine az fun zG=> ?_;obtain⟨z,rfl,x4,h4,o4⟩:=fN;refine zG ?_;rw [kf,hF] at o4;have b1:(iz Ps).length<=100*Ps.length:=tv (l:=Ps) fun P h=>iQ (by have:=nr (hP P h);exact Hc this);have o4t:=(x4.ob _ (by exact O7 n3)).trans o3;lcg_off;generalize Vx:m4.new (.list [])=m5;have x5:Ext m4 m5:=by rw [<- Vx];exact .new _ _
  have o5:m5.ob m4.n= .list []:=by rw [<- Vx];exact bc _ _
  have n5:m5.n=m4.n+1:=by rw [<- Vx];rfl
  have Bx:=x4.n;have o5t:=(x5.ob _ (by exact W9 n3 h4)).trans o4t;have o5g:=(x5.ob _ h4).trans o4;refine Ok.IJ o5t o5 (by rw [kf];exact wd) ?_;lcg_off;refine Ok.xF o5g (by rw [eW];exact WI hz b1) ?_;lcg_off;refine Ok.aeQ o5g (by exact W_ hz b1) ?_;generalize hm6:m5.new (.tR _)=m6;have x6:Ext m5 m6:=by rw [<- hm6];exact .new _ _
  have o6:m6.ob m5.n= .tR (distinct (iz Ps)):=by rw [<- hm6];exact bc _ _
  lcg_off;refine Ok.aev o6 (by rw [hd];exact WI hz b1) ?_;lcg_off;refine Ok.wQ (by rw [hd,eW]) ?_;lcg_off;have o6t:=(x6.ob _ (by exact Xa n3 h4 n5)).trans o5t;refine(vQ o6t (by have:=x6.n;exact Xb n3 h4 n5 this) (by exact Ez hz kf)).q2 ?_;intro m7 x7 N7;lcg_off;exact⟨⟨_,_,_,rfl,N7,FT3.mono fun O O a=>a.keep (.of (((x4.trans x5).trans x6).trans x7))⟩,((((x2.trans x3).trans x4).trans x5).trans x6).trans x7⟩
noncomputable def fJ(n:Nat):List Int:=(List.range n).map fun(k:Nat)=>10+(k:Int)
noncomputable def dm(n:Nat)(w:Int):List Plan:=
 if w=1/\1<n then .Gr ((fJ n).take 2)::((fJ n).drop 2).map .mY else if w=2/\2<n then .rz ((fJ n).take 3)::((fJ n).drop 3).map .mY else(fJ n).map .mY
theorem F2.D0(m:MH)(ks:List Int):F2 (pg m) (ks.map eJ) (ks.map .mY):=by
 induction ks with
 |nil=>exact .nil
 |cons a r ih=>exact .cons rfl ih
theorem Ax(n:Nat):(fJ n).length=n:=by simp [fJ]
theorem By{n:Nat}{w:Int}(hn:n<=100):Ok (iP.1 [.int n,.int w] m) fun v m'=>∃o vs,v= .obj o/\o<m'.n/\m'.ob o= .list vs/\F2 (pg m') vs (dm n w)/\Ext m m':=by
 have La:=Ax n;dsimp only [iP];refine Ok.cps fun Q hq=> ?_;refine Ok.dc (eN rfl) (by keq_hits) ?_
 set_option tactic.hygienic true in lcg_off
 refine Ok.DV n (fun fr=>∃o,fr= [o]) (fun k ys m2=>m2=m/\ys=((List.range k).map fun(k:Nat)=>eJ (10+(k:Int)))) (by exact lk hn) ?_ ⟨_,rfl⟩ ?_ ?_
 ·lcg_off;exact⟨rfl,rfl,rfl⟩
 ·intro k ys fr _ hk jJ gQ U hj;refine az fun zG=> ?_;obtain⟨rfl,rfl⟩:=jJ;obtain⟨o,rfl⟩:=gQ;refine zG ?_;lcg_off;exact⟨⟨_,rfl⟩,rfl,by rw [List.range_succ,jb];rfl⟩
 set_option tactic.hygienic true in rintro ys _ ⟨rfl,rfl⟩
 have uk:(List.range n).map (fun(k:Nat)=>eJ (10+(k:Int)))=(fJ n).map eJ:=by unfold fJ;rw [List.map_map];rfl
 rw [uk];rename_i mm;generalize yq:mm.new (.list ((fJ n).map eJ))=m1;have x1:Ext mm m1:=by rw [<- yq];exact .new _ _
 have o1:m1.ob mm.n= .list ((fJ n).map eJ):=by rw [<- yq];exact bc _ _
 have n1:m1.n=mm.n+1:=by rw [<- yq];rfl
 by_cases hw:w=1/\1<n
 ·obtain⟨Vy,Vz⟩:=hw;have e:dm n w= .Gr ((fJ n).take 2)::((fJ n).drop 2).map .mY:=if_pos ⟨Vy,Vz⟩;lcg_off;refine Ok.Gk o1 rfl rfl (by rw [eW];exact Ka hn La) ?_;have ec:c8 ((fJ n).map eJ) none (some 2)=((fJ n).take 2).map eJ:=(ux _ 2).trans (List.map_take).symm;rw [ec];generalize rF:m1.new (.list (((fJ n).take 2).map eJ))=m2;have x2:Ext m1 m2:=by rw [<- rF];exact .new _ _
  have o2:m2.ob m1.n= .list (((fJ n).take 2).map eJ):=by rw [<- rF];exact bc _ _
  have n2:m2.n=m1.n+1:=by rw [<- rF];rfl
  lcg_off;generalize Aw:m2.new (.list [.tup [.str "mirror",.obj m1.n]])=m3;have x3:Ext m2 m3:=by rw [<- Aw];exact .new _ _
  have o3:m3.ob m2.n= .list [.tup [.str "mirror",.obj m1.n]]:=by rw [<- Aw];exact bc _ _
  have n3:m3.n=m2.n+1:=by rw [<- Aw];rfl
  lcg_off;refine Ok.Gk (((x2.trans x3).ob _ (by exact O7 n1)).trans o1) rfl rfl (by rw [eW];exact Ka hn La) ?_;have ec:c8 ((fJ n).map eJ) (some 2) none=((fJ n).drop 2).map eJ:=(zM _ 2).trans (List.map_drop).symm;rw [ec];generalize sM:m3.new (.list (((fJ n).drop 2).map eJ))=m4;have x4:Ext m3 m4:=by rw [<- sM];exact .new _ _
  have o4:m4.ob m3.n= .list (((fJ n).drop 2).map eJ):=by rw [<- sM];exact bc _ _
  have n4:m4.n=m3.n+1:=by rw [<- sM];rfl
  lcg_off;refine Ok.Tb ((x4.ob _ (by exact O7 n3)).trans o3) o4 (by simp;exact Xc hn La) ?_;lcg_off;refine⟨_,_,rfl,gA _,bc _ _, ?_,(((x1.trans x2).trans x3).trans x4).trans (.new _ _)⟩;rw [e];refine .cons ⟨_,rfl,by rw [eu];exact Rf n2 n3 n4, ?_⟩ (F2.D0 _ _);exact(((x3.trans x4).trans (.new _ _)).ob _ (by exact O7 n2)).trans o2
 ·by_cases hv:w=2/\2<n
  ·obtain⟨Vy,Vz⟩:=hv;have e:dm n w= .rz ((fJ n).take 3)::((fJ n).drop 3).map .mY:=(if_neg hw).trans (if_pos ⟨Vy,Vz⟩);lcg_off;refine Ok.Gk o1 rfl rfl (by rw [eW];exact Ka hn La) ?_;have ec:c8 ((fJ n).map eJ) none (some 3)=((fJ n).take 3).map eJ:=(ux _ 3).trans (List.map_take).symm;rw [ec];generalize rF:m1.new (.list (((fJ n).take 3).map eJ))=m2;have x2:Ext m1 m2:=by rw [<- rF];exact .new _ _
   have o2:m2.ob m1.n= .list (((fJ n).take 3).map eJ):=by rw [<- rF];exact bc _ _
   have n2:m2.n=m1.n+1:=by rw [<- rF];rfl
   lcg_off;generalize Aw:m2.new (.list [.tup [.str "raidz",.int 1,.obj m1.n]])=m3;have x3:Ext m2 m3:=by rw [<- Aw];exact .new _ _
   have o3:m3.ob m2.n= .list [.tup [.str "raidz",.int 1,.obj m1.n]]:=by rw [<- Aw];exact bc _ _
   have n3:m3.n=m2.n+1:=by rw [<- Aw];rfl
   lcg_off;refine Ok.Gk (((x2.trans x3).ob _ (by exact O7 n1)).trans o1) rfl rfl (by rw [eW];exact Ka hn La) ?_;have ec:c8 ((fJ n).map eJ) (some 3) none=((fJ n).drop 3).map eJ:=(zM _ 3).trans (List.map_drop).symm;rw [ec];generalize sM:m3.new (.list (((fJ n).drop 3).map eJ))=m4;have x4:Ext m3 m4:=by rw [<- sM];exact .new _ _
   have o4:m4.ob m3.n= .list (((fJ n).drop 3).map eJ):=by rw [<- sM];exact bc _ _
   have n4:m4.n=m3.n+1:=by rw [<- sM];rfl
   lcg_off;refine Ok.Tb ((x4.ob _ (by exact O7 n3)).trans o3) o4 (by simp;exact Xd hn La) ?_;lcg_off;refine⟨_,_,rfl,gA _,bc _ _, ?_,(((x1.trans x2).trans x3).trans x4).trans (.new _ _)⟩;rw [e];refine .cons ⟨_,rfl,by rw [eu];exact Rf n2 n3 n4, ?_⟩ (F2.D0 _ _);exact(((x3.trans x4).trans (.new _ _)).ob _ (by exact O7 n2)).trans o2
  ·have e:dm n w=(fJ n).map .mY:=(if_neg hw).trans (if_neg hv);lcg_src;refine bL.test (Ok.mono (Q:=fun v m'=>v=false/\m'=m1) ?_ ?_)
   ·by_cases h1:w=1
    ·lcg_off;exact⟨rfl,rfl⟩
    ·lcg_off;exact⟨rfl,rfl⟩
   rintro _ PY ⟨rfl,e1⟩;cases e1
   by_cases h2:w=2
   ·lcg_off;exact⟨_,_,rfl,by exact O7 n1,o1,by rw [e];exact F2.D0 _ _,x1⟩
   ·lcg_off;exact⟨_,_,rfl,by exact O7 n1,o1,by rw [e];exact F2.D0 _ _,x1⟩
end
section
variable {m:MH}{n s:Nat}{xs:List Int}{w:Int}
noncomputable def eK(xs:List Int)(k:Nat):Int:=if k<xs.length then xs.getD k 0 else 3*(k:Int)+2
theorem jB{k:Nat}(o:m.ob s= .list (xs.map .int))(hz:xs.length<=1000)(hk:k<=100):Ok (gF.1 [.obj s,.int (k:Int)] m) fun v m'=>v= .int (eK xs k)/\m'=m:=by
 dsimp only [gF];refine Ok.cps fun Q hq=> ?_;refine Ok.dc (eN rfl) (by keq_hits) ?_;lcg_off;refine Ok.xF o (by rw [eW];exact O34 hz) ?_
 by_cases h:k<xs.length
 ·have e:eK xs k=xs.getD k 0:=if_pos h;refine Ok.SW (by rw [eW];exact abb h) ?_;lcg_off;refine Ok.qg o (by exact abc hk) (v:= .int (xs.getD k 0)) ?_ ?_
  ·rw [l9,ja,iq h,pj,iq h];rfl
  lcg_off;exact⟨by rw [e],rfl⟩
 ·have e:eK xs k=3*(k:Int)+2:=if_neg h;refine Ok.SX (by rw [eW];exact abd h) ?_;lcg_off;exact⟨by rw [e],rfl⟩
theorem om{x:Int}(hx:0<=x/\x<=100):Ok (iP.1 [.int x,.int w] m) fun v m'=>∃o vs,v= .obj o/\o<m'.n/\m'.ob o= .list vs/\F2 (pg m') vs (dm x.toNat w)/\Ext m m':=by
 obtain⟨n,rfl⟩:∃n:Nat,x=n:=⟨x.toNat,by exact abe hx⟩;exact By (by exact abf hx)
theorem VB(n:Nat)(h:n<=100):∀g∈fJ n,Av g:=fun g hg=>by
 unfold fJ at hg;rw [List.mem_map] at hg;refine az fun zG=> ?_;obtain⟨k,hk,rfl⟩:=hg;refine zG ?_;have:=List.mem_range.mp hk;unfold Av;exact abg h this
theorem uL(ks:List Int):(ks.map Plan.mY).flatMap (fun P=>gy (e9 P))=ks:=by
 induction ks with
 |nil=>rfl
 |cons a r ih=>rw [List.map_cons,List.flatMap_cons,ih];rfl
theorem j9(n:Nat)(w:Int):iz (dm n w)=fJ n:=by
 delta dm iz
 split
 ·rw [List.flatMap_cons,uL];exact List.take_append_drop 2 (fJ n)
 ·split
  ·rw [List.flatMap_cons,uL];exact List.take_append_drop 3 (fJ n)
  ·exact uL _
theorem nt(h1:1<=n)(h5:n<=5):(∀P∈dm n w,tA P)/\dm n w≠ []/\(dm n w).length<=10:=by
 have hG:=VB n (by exact lk h5);have hl:=Ax n;have hd:∀(l:List Int),(∀g∈l,Av g)->∀P∈l.map Plan.mY,tA P:=fun l hl P hP=>by
  rw [List.mem_map] at hP;refine az fun zG=> ?_;obtain⟨g,hg,rfl⟩:=hP;refine zG ?_;exact hl g hg
 unfold dm
 split
 ·rename_i h;refine⟨fun P hP=> ?_,by simp,by simp;exact abh h5 hl⟩;rcases List.mem_cons.mp hP with rfl|hP
  ·exact⟨by rw [ig];exact abi hl h,by rw [ig];exact abj,fun g hg=>hG g (List.mem_of_mem_take hg)⟩
  ·exact hd _ (fun g hg=>hG g (List.mem_of_mem_drop hg)) P hP
 ·split
  ·rename_i h;refine⟨fun P hP=> ?_,by simp,by simp;exact abk h5 hl⟩;rcases List.mem_cons.mp hP with rfl|hP
   ·exact⟨by rw [ig];exact abl hl h,by rw [ig];exact abm,fun g hg=>hG g (List.mem_of_mem_take hg)⟩
   ·exact hd _ (fun g hg=>hG g (List.mem_of_mem_drop hg)) P hP
  ·refine⟨hd _ hG,fun h=> ?_,by rw [eW];exact abn h5 hl⟩;have:=congrArg List.length h;rw [eW,hl,List.length_nil] at this;exact abo h1 h5 hl this
theorem pV(h:n<=5):distinct (fJ n)=(fJ n).length:=by
 exact(bR rfl:∀n<6,distinct (fJ n)=(fJ n).length) n (Nat.lt_succ_of_le h)
noncomputable def nA(a:Int):Nat:=(1+(a.fdiv 3).fmod 5).toNat
noncomputable def nB(b:Int):Nat:=(1+(b.fdiv 5).fmod 5).toNat
noncomputable def nC(c:Int):Nat:=(1+c.fmod 5).toNat
noncomputable def nameA(a:Int):List Nat:= [116,97,110,107,97+(a.fmod 3).toNat]
noncomputable def IK(a b:Int):ea:=⟨nameA a,70+b.fmod 5,1+(a.fdiv 45).fmod 3,(dm (nA a) ((a.fdiv 15).fmod 3)).map e9⟩
noncomputable def IL(a b:Int):ea:=⟨nameA a,70+b.fmod 5,1+(b.fdiv 75).fmod 4,(dm (nB b) ((b.fdiv 25).fmod 3)).map e9⟩
noncomputable def IM(c:Int):ea:=⟨[122],80,1+(c.fdiv 15).fmod 4,(dm (nC c) ((c.fdiv 5).fmod 3)).map e9⟩
theorem eO(a:Int){k:Int}(h:0<k):0<=a.fmod k/\a.fmod k<k:=⟨Int.fmod_nonneg_of_pos _ h,Int.fmod_lt_of_pos _ h⟩
theorem Lc(a:Int)(m:MH):∃s,zR (.str "abc") (.int (a.fmod 3)) m=some (.str s,m)/\zO (.str "tank") (.str s) m=some (.str (strOf (nameA a)),m):=by
 have h:=eO a (k:=3) (bR rfl);unfold nameA;generalize a.fmod 3=x at h;have:x=0\/x=1\/x=2:=by exact Rn h
 rcases this with rfl|rfl|rfl
 ·exact⟨_,rfl,rfl⟩
 ·exact⟨_,rfl,rfl⟩
 ·exact⟨_,rfl,rfl⟩
theorem yw(o:m.ob s= .list (xs.map .int))(hs:s<m.n)(hz:xs.length<=1000):
  Ok (mJ.1 [.obj s] m) fun v m'=>∃o c0 c1 c2,v= .obj o/\m.n<=o/\o<m'.n/\m'.ob o= .list [c0,c1,c2]/\eZ m' c0 (IK (eK xs 0) (eK xs 1))/\eZ m' c1 (IL (eK xs 0) (eK xs 1))/\eZ m' c2 (IM (eK xs 2))/\Ext m m':=by
 dsimp only [mJ];refine Ok.cps fun Q hq=> ?_;refine Ok.dc (eN rfl) (by keq_hits) ?_;lcg_off;refine(jB (k:=0) o hz (bR rfl)).q1 ?_;rintro _ rfl;lcg_off;refine(jB (k:=1) o hz (bR rfl)).q1 ?_;rintro _ rfl
 set_option tactic.hygienic true in lcg_off
 refine(jB (k:=2) o hz (bR rfl)).q1 ?_
 set_option tactic.hygienic true in rintro _ rfl
 generalize eK xs 0=a at hq ⊢;generalize eK xs 1=b at hq ⊢;generalize eK xs 2=c at hq ⊢;rename_i m;lcg_off;refine az fun zG=> ?_;obtain⟨s1,e1,e2⟩:=Lc a m;refine zG ?_;refine Ok.of e1 ?_;lcg_off;refine Ok.of e2 ?_;lcg_off;have r1:=eO (a.fdiv 3) (k:=5) (by decide);have r2:=eO (b.fdiv 5) (k:=5) (by decide);have r3:=eO c (k:=5) (by decide);refine(om (m:=m) (x:=1+(a.fdiv 3).fmod 5) (w:=(a.fdiv 15).fmod 3) (by exact TV r1)).mono ?_;intro _ m1 fN;refine az fun zG=> ?_;obtain⟨o1,vs1,rfl,h1,u9,F1,x1⟩:=fN;refine zG ?_;lcg_off;refine az fun zG=> ?_;obtain⟨p1,p2,p3⟩:=nt (n:=nA a) (w:=(a.fdiv 15).fmod 3) (by unfold nA;exact Kd r1) (by unfold nA;exact O5 r1);refine zG ?_;refine(jK h1 u9 F1 p1 p2 p3 (by rw [j9];exact pV (by exact O5 r1))).k2 ?_;intro c0 m2 C0 x2;have C0':eZ m2 c0 (IK a b):=C0;refine az fun zG=> ?_;obtain⟨i0,j0,VD,rfl,⟨a0,r0,l0,l0'⟩,f0⟩:=id C0;refine zG ?_;lcg_off;refine(om (m:=m2) (x:=1+(b.fdiv 5).fmod 5) (w:=(b.fdiv 25).fmod 3) (by exact TV r2)).mono ?_;intro _ m3 fN;refine az fun zG=> ?_;obtain⟨o3,vs3,rfl,h3,ho3,F3,x3⟩:=fN;refine zG ?_;lcg_off;refine az fun zG=> ?_;obtain⟨p1,p2,p3⟩:=nt (n:=nB b) (w:=(b.fdiv 25).fmod 3) (by unfold nB;exact Kd r2) (by unfold nB;exact O5 r2);refine zG ?_;refine(jK h3 ho3 F3 p1 p2 p3 (by rw [j9];exact pV (by exact O5 r2))).k2 ?_;intro c1 m4 C1 x4;have C1':eZ m4 c1 (IL a b):=C1;lcg_off;refine(om (m:=m4) (x:=1+c.fmod 5) (w:=(c.fdiv 5).fmod 3) (by exact TV r3)).mono ?_;intro _ m5 fN;refine az fun zG=> ?_;obtain⟨o5,vs5,rfl,h5,ho5,F5,x5⟩:=fN;refine zG ?_;lcg_off;refine az fun zG=> ?_;obtain⟨p1,p2,p3⟩:=nt (n:=nC c) (w:=(c.fdiv 5).fmod 3) (by unfold nC;exact Kd r3) (by unfold nC;exact O5 r3);refine zG ?_;refine(jK (nm:= [122]) h5 ho5 F5 p1 p2 p3 (by rw [j9];exact pV (by exact O5 r3))).k2 ?_;intro c2 m6 C2 x6;have C2':eZ m6 c2 (IM c):=C2;lcg_off;have e6:=(x1.trans x2).trans ((x3.trans x4).trans (x5.trans x6));exact⟨_,_,_,_,rfl,e6.n,gA _,bc _ _,C0'.keep (.of (((x3.trans x4).trans (x5.trans x6)).trans (.new _ _))),C1'.keep (.of ((x5.trans x6).trans (.new _ _))),C2'.keep (.of (.new _ _)),e6.trans (.new _ _)⟩
end
section
variable {m:MH}{sh:Nat}
structure c9 (m:MH) (i:Nat):Prop where
 a:m.ob i= .inst 346
 r:m.ob (i+1)= .dP [("sector",.int 16),("slab",.int 32),("record",.int 32),("fan",.int 4),("dnodes",.int 4),("ring",.int 1),("defer",.int 2),("most_record",.int 128),("uber",.int 16),("config",.int 160),("zap",.int 128)]
 l:i+1<m.n
theorem c9.keep{m':MH}{i:Nat}(h:c9 m i)(x:Ext m m'):c9 m' i:=by
 refine az fun zG=> ?_;obtain⟨a,r,l⟩:=h;refine zG ?_;exact⟨(x.ob _ (by exact O3 l)).trans a,(x.ob _ l).trans r,eE l x.n⟩
theorem Ok.FU{Q:MV->MH->Prop}{sel:List MV->Option (List MV)}{r:Nat}{c:SM}{xs ys:List MV}{vg:av}(hs:sel xs=some ys)(hf:sF (ys.map some++List.replicate r none) vg)(h:bL (c vg m) (xD Q)):Ok (FU sel r c xs m) Q:=by
 refine az fun zG=> ?_;obtain⟨f,et,m1,e,q⟩:=h;refine zG ?_;unfold sF at hf;subst hf;have key:∀ {z},Mine.endOf (some (f,et,m1))=z->Mine.FU sel r c xs m=z:=fun h=>(aV hs).trans ((congrArg Mine.endOf e).trans h);cases f with
 |next=>exact⟨.none,m1,key rfl,q⟩
 |ret v=>exact⟨v,m1,key rfl,q⟩
 |brk=>exact q.elim
 |cont=>exact q.elim
theorem xH(m:MH)(C:Addr):((m.new (.inst C)).new (.dP [])).n=m.n+2/\((m.new (.inst C)).new (.dP [])).ob m.n= .inst C/\((m.new (.inst C)).new (.dP [])).ob (m.n+1)= .dP []/\∀t,t<m.n->((m.new (.inst C)).new (.dP [])).ob t=m.ob t:=
 ⟨rfl,by rw [cU (by rw [eu];exact Cy)];exact bc _ _,bc (m.new (.inst C)) _,fun t ht=>by rw [cU (by rw [eu];exact Kb ht),cU ht]⟩
theorem Gu(m:MH):Ok (Cb.1 [.int 16,.int 1,.int 16,.int 160] m) fun v m'=>v= .obj m.n/\c9 m' m.n/\Ext m m':=by
 refine Ok.new ?_;refine az fun zG=> ?_;obtain⟨n0,a0,r0,o0⟩:=xH m 346;refine zG ?_;generalize (m.new (.inst 346)).new (.dP [])=m0 at n0 a0 r0 o0;refine Ok.FU (ys:= [.obj m.n,.int 16,.int 32,.int 32,.int 4,.int 4,.int 1,.int 2,.int 128,.int 16,.int 160,.int 128]) rfl (by keq_hits) ?_;lcg_off;refine Ok.gq a0 r0 (by decide) (by exact EA n0) (iZ rfl) rfl fun m1 a1 r1 n1 o1=> ?_;lcg_off;refine Ok.gq a1 r1 (by decide) (by exact TM n0 n1) (iZ rfl) rfl fun m2 a2 r2 n2 o2=> ?_;lcg_off;refine Ok.gq a2 r2 (by decide) (by exact Rq n0 n1 n2) (iZ rfl) rfl fun m3 a3 r3 n3 o3=> ?_;lcg_off;refine Ok.gq a3 r3 (by decide) (by exact XR n0 n1 n2 n3) (iZ rfl) rfl fun m4 a4 r4 n4 o4=> ?_;lcg_off;refine Ok.gq a4 r4 (by decide) (by exact XS n0 n1 n2 n3 n4) (iZ rfl) rfl fun m5 a5 r5 n5 o5=> ?_;lcg_off;refine Ok.gq a5 r5 (by decide) (by exact XT n0 n1 n2 n3 n4 n5) (iZ rfl) rfl fun m6 a6 r6 n6 o6=> ?_;lcg_off;refine Ok.gq a6 r6 (by decide) (by exact XU n0 n1 n2 n3 n4 n5 n6) (iZ rfl) rfl fun m7 a7 r7 n7 o7=> ?_;lcg_off;refine Ok.gq a7 r7 (by decide) (by exact XW n0 n1 n2 n3 n4 n5 n6 n7) (iZ rfl) rfl fun m8 a8 r8 n8 o8=> ?_;lcg_off;refine Ok.gq a8 r8 (by decide) (by exact XX n0 n1 n2 n3 n4 n5 n6 n7 n8) (iZ rfl) rfl fun m9 a9 r9 n9 o9=> ?_;lcg_off;refine Ok.gq a9 r9 (by decide) (by exact XY n0 n1 n2 n3 n4 n5 n6 n7 n8 n9) (iZ rfl) rfl fun mA aA rA nA oA=> ?_;lcg_off;refine Ok.gq aA rA (by decide) (by exact XZ n0 n1 n2 n3 n4 n5 n6 n7 n8 n9 nA) (iZ rfl) rfl fun mB aB rB nB oB=> ?_;lcg_off;refine⟨rfl,rfl,⟨aB,rB,by exact X0 n0 n1 n2 n3 n4 n5 n6 n7 n8 n9 nA nB⟩,by exact X1 n0 n1 n2 n3 n4 n5 n6 n7 n8 n9 nA nB,fun t ht=> ?_⟩;rw [oB _ (by exact O1 ht),oA _ (by exact O1 ht),o9 _ (by exact O1 ht),o8 _ (by exact O1 ht),o7 _ (by exact O1 ht),o6 _ (by exact O1 ht),o5 _ (by exact O1 ht),o4 _ (by exact O1 ht),o3 _ (by exact O1 ht),o2 _ (by exact O1 ht),o1 _ (by exact O1 ht),o0 _ ht]
section
variable {m:MH}{i:Nat}
theorem km(S:c9 m i):Ok (gm.1 [.obj i] m) fun v m'=>v= .int 10/\m'=m:=by
 refine az fun zG=> ?_;obtain⟨a,r,l⟩:=S;refine zG ?_;dsimp only [gm];refine Ok.cps fun Q hq=> ?_;refine Ok.dc (eN rfl) (by keq_hits) ?_;lcg_off;dsimp only [oY];refine Ok.dc (eN rfl) (by keq_hits) ?_;lcg_off;exact⟨rfl,rfl⟩
theorem wW(S:c9 m i):Ok (lI.1 [.obj i] m) fun v m'=>v= .int 1/\m'=m:=by
 refine az fun zG=> ?_;obtain⟨a,r,l⟩:=S;refine zG ?_;dsimp only [lI];refine Ok.cps fun Q hq=> ?_;refine Ok.dc (eN rfl) (by keq_hits) ?_;lcg_off;dsimp only [oY];refine Ok.dc (eN rfl) (by keq_hits) ?_;lcg_off;exact⟨rfl,rfl⟩
theorem vT(S:c9 m i):Ok (k_.1 [.obj i] m) fun v m'=>v= .int 11/\m'=m:=by
 refine az fun zG=> ?_;obtain⟨a,r,l⟩:=id S;refine zG ?_;dsimp only [k_];refine Ok.cps fun Q hq=> ?_;refine Ok.dc (eN rfl) (by keq_hits) ?_;lcg_off;refine(km S).q1 ?_;rintro _ rfl;lcg_off;refine(wW S).q1 ?_;rintro _ rfl;lcg_off;exact⟨rfl,rfl⟩
end
structure dD (out:Bool) (w r:Int) (i jo jw:Nat) (b:List UInt8) (ws:List MV) (m:MH):Prop where
 a:m.ob i= .inst 526
 r:m.ob (i+1)= .dP [("sector",.int 16),("octets",.obj jo),("waiting",.obj jw),("is_out",.bool out),("reads",.int r),("writes",.int w)]
 o:m.ob jo= .ba b
 w:m.ob jw= .list ws
 l:i+1<m.n/\jo<m.n/\jw<m.n
section
variable {m m':MH}{i jo jw:Nat}{b:List UInt8}{ws:List MV}{out:Bool}{r w:Int}
theorem dD.keep(S:dD out w r i jo jw b ws m)(x:Ext m m'):dD out w r i jo jw b ws m':=by
 refine az fun zG=> ?_;obtain⟨a,q,o,u,l1,l2,l3⟩:=S;refine zG ?_;have:=x.n;exact⟨(x.ob _ (by exact O3 l1)).trans a,(x.ob _ l1).trans q,(x.ob _ l2).trans o,(x.ob _ l3).trans u,by exact X2 l1 this,by exact Hf l2 this,by exact Hf l3 this⟩
theorem dD.ne(S:dD out w r i jo jw b ws m):i≠jo/\i≠jw/\i+1≠jo/\i+1≠jw/\jo≠jw:=by
 refine az fun zG=> ?_;obtain⟨a,q,o,u,l⟩:=S;refine zG ?_;refine⟨?_, ?_, ?_, ?_, ?_⟩ <;> intro h <;> simp_all
theorem IP(S:c9 m sh):Ok (FX.1 [.int 24,.obj sh] m) fun v m'=>v= .obj m.n/\dD false 0 0 m.n (m.n+2) (m.n+3) (List.replicate 384 0) [] m'/\Ext m m':=by
 refine az fun zG=> ?_;obtain⟨a,r,l⟩:=id S;refine zG ?_;refine Ok.new ?_;refine az fun zG=> ?_;obtain⟨n0,a0,r0,o0⟩:=xH m 526;refine zG ?_;generalize (m.new (.inst 526)).new (.dP [])=m0 at n0 a0 r0 o0;dsimp only [ud];refine Ok.cps fun Q hq=> ?_;refine Ok.dc (eN rfl) (by keq_hits) ?_;have a':=(o0 _ (by exact O3 l)).trans a;have r':=(o0 _ l).trans r;lcg_off;refine Ok.gq a0 r0 (by decide) (by exact EA n0) (iZ rfl) rfl fun m1 a1 r1 n1 o1=> ?_;have a':=(o1 _ (by exact X3 l)).trans a';have r':=(o1 _ (by exact X8 l)).trans r';lcg_off;refine Ok.of (a:= .obj m1.n) (m':=m1.new (.ba (List.replicate 384 0))) rfl ?_;have q1:=(cU (m:=m1) (o:= .ba (List.replicate 384 0)) (i:=m.n) (by exact TM n0 n1)).trans a1;have q2:=(cU (m:=m1) (o:= .ba (List.replicate 384 0)) (i:=m.n+1) (by exact X9 n0 n1)).trans r1;have q3:=bc m1 (.ba (List.replicate 384 0));lcg_off;refine Ok.gq q1 q2 (by decide) (by rw [eu];exact X_ n0 n1) (iZ rfl) rfl fun m2 a2 r2 n2 o2=> ?_;rw [eu] at n2;lcg_off;have p1:=(cU (m:=m2) (o:= .list []) (i:=m.n) (by exact Yb n0 n1 n2)).trans a2;have p2:=(cU (m:=m2) (o:= .list []) (i:=m.n+1) (by exact Yc n0 n1 n2)).trans r2;have p3:=bc m2 (.list []);refine Ok.gq p1 p2 (by decide) (by rw [eu];exact Yd n0 n1 n2) (iZ rfl) rfl fun m3 a3 r3 n3 o3=> ?_;rw [eu] at n3;lcg_off;refine Ok.gq a3 r3 (by decide) (by exact Ye n0 n1 n2 n3) (iZ rfl) rfl fun m4 a4 r4 n4 o4=> ?_;lcg_off;refine Ok.gq a4 r4 (by decide) (by exact Yg n0 n1 n2 n3 n4) (iZ rfl) rfl fun m5 a5 r5 n5 o5=> ?_;lcg_off;refine Ok.gq a5 r5 (by decide) (by exact Yh n0 n1 n2 n3 n4 n5) (iZ rfl) rfl fun m6 a6 r6 n6 o6=> ?_;lcg_off;refine⟨rfl,rfl,⟨a6, ?_, ?_, ?_,by exact Yi n0 n1 n2 n3 n4 n5 n6⟩,by exact Yj n0 n1 n2 n3 n4 n5 n6,fun t ht=> ?_⟩
 ·rw [r6,n2,n1,n0];rfl
 ·rw [o6 _ (by exact EB),o5 _ (by exact EB),o4 _ (by exact EB),o3 _ (by exact EB),cU (by exact Yk n0 n1 n2),o2 _ (by exact EB), <- n0, <- n1];exact q3
 ·rw [o6 _ (by exact Pl),o5 _ (by exact Pl),o4 _ (by exact Pl),o3 _ (by exact Pl),show m.n+3=m2.n by exact Yl n0 n1 n2];exact p3
 ·rw [o6 _ (by exact O1 ht),o5 _ (by exact O1 ht),o4 _ (by exact O1 ht),o3 _ (by exact O1 ht),cU (by exact Ym n0 n1 n2 ht),o2 _ (by exact O1 ht),cU (by exact Yn n0 n1 ht),o1 _ (by exact O1 ht),o0 _ ht]
theorem qj(S:dD out w r i jo jw b ws m)(hb:b.length=384):Ok (jx.1 [.obj i] m) fun v m'=>v= .int 24/\m'=m:=by
 refine az fun zG=> ?_;obtain⟨a,q,o,u,l⟩:=id S;refine zG ?_;dsimp only [jx];refine Ok.cps fun Q hq=> ?_;refine Ok.dc (eN rfl) (by keq_hits) ?_;lcg_off;refine Ok.aeu o (by exact Pm hb) ?_;rw [hb];lcg_off;exact⟨rfl,rfl⟩
theorem qk(S:dD out w r i jo jw b ws m)(hb:b.length=384)(hs:c9 m sh):Ok (jy.1 [.obj i,.obj sh] m) fun v m'=>xG m m' v [.int 0,.int 13]:=by
 refine az fun zG=> ?_;obtain⟨a,q,o,u,l⟩:=id S;refine zG ?_;dsimp only [jy];refine Ok.cps fun Q hq=> ?_;refine Ok.dc (eN rfl) (by keq_hits) ?_;lcg_off;refine(qj S hb).q1 ?_;rintro _ rfl;lcg_off;refine(vT hs).q1 ?_;rintro _ rfl;lcg_off;exact .of (.refl _)
theorem l7{s k:Int}(S:dD out w r i jo jw b ws m)(hb:b.length=384)(h:0<=s/\0<=k/\s+k<=24):Ok (jV.1 [.obj i,.int s,.int k] m) fun v m'=>v= .none/\m'=m:=by
 refine az fun zG=> ?_;obtain⟨a,q,o,u,l⟩:=id S;refine zG ?_;dsimp only [jV];refine Ok.cps fun Q hq=> ?_;refine Ok.dc (eN rfl) (by keq_hits) ?_;lcg_off;refine(qj S hb).q1 ?_;rintro _ rfl;lcg_off;exact⟨rfl,rfl⟩
end
end
section
variable {i jo jw s:Nat}{m m':MH}{α:Type}{p:List UInt8}{W:List (Nat×List UInt8)}
structure ew (i jo jw:Nat) (m m':MH):Prop where
 n:m.n<=m'.n
 ob:∀t,t<m.n->t≠i+1->t≠jo->t≠jw->m'.ob t=m.ob t
theorem ew.refl(m:MH):ew i jo jw m m:=⟨dU _,fun O O O O O=>rfl⟩
theorem ew.trans{a b c:MH}(x:ew i jo jw a b)(y:ew i jo jw b c):ew i jo jw a c:=⟨jc x.n y.n,fun t h p q r=>(y.ob t (eE h x.n) p q r).trans (x.ob t h p q r)⟩
theorem ew.of(x:Ext m m'):ew i jo jw m m':=⟨x.n,fun t h O O O=>x.ob t h⟩
theorem ew.Gv(n:m'.n=m.n)(o:∀t,t≠i+1->m'.ob t=m.ob t):ew i jo jw m m':=⟨by exact aaI n,fun t O h O O=>o t h⟩
theorem ew.N9(m:MH)(x:MO):ew i jo jw m (m.set jw x):=⟨dU _,fun t O O O h=>cj h⟩
theorem ew.sN(m:MH)(x:MO):ew i jo jw m (m.set jo x):=⟨dU _,fun t O O h O=>cj h⟩
section
variable {m m':MH}{i jo jw:Nat}{b:List UInt8}{ws:List MV}{out:Bool}{r w:Int}
theorem dD.N9(S:dD out w r i jo jw b ws m)(ws':List MV):dD out w r i jo jw b ws' (m.set jw (.list ws')):=by
 refine az fun zG=> ?_;obtain⟨n1,n2,n3,n4,n5⟩:=S.ne;refine zG ?_;exact⟨(cj n2).trans S.a,(cj n4).trans S.r,(cj n5).trans S.o,fL _ _ _,S.l⟩
theorem dD.sN(S:dD out w r i jo jw b ws m)(b':List UInt8):dD out w r i jo jw b' ws (m.set jo (.ba b')):=by
 refine az fun zG=> ?_;obtain⟨n1,n2,n3,n4,n5⟩:=S.ne;refine zG ?_;exact⟨(cj n1).trans S.a,(cj n3).trans S.r,fL _ _ _,(cj (Ne.symm n5)).trans S.w,S.l⟩
theorem dD.xI{To:Bool}{r' w':Int}(S:dD out w r i jo jw b ws m)(n:m'.n=m.n)(o:∀t,t≠i+1->m'.ob t=m.ob t)(q:m'.ob (i+1)= .dP [("sector",.int 16),("octets",.obj jo),("waiting",.obj jw),("is_out",.bool To),("reads",.int r'),("writes",.int w')]):dD To w' r' i jo jw b ws m':=by
 refine az fun zG=> ?_;obtain⟨n1,n2,n3,n4,n5⟩:=S.ne;refine zG ?_;exact⟨(o _ (by exact O8)).trans S.a,q,(o _ (Ne.symm n3)).trans S.o,(o _ (Ne.symm n4)).trans S.w,by rw [n];exact S.l⟩
theorem Ay{s k:Int}(S:dD true w r i jo jw b ws m)(hb:b.length=384)(h:0<=s/\0<=k/\s+k<=24):Ok (iO.1 [.obj i,.int s,.int k] m) fun v m'=>v= .none/\m'=m:=by
 refine az fun zG=> ?_;obtain⟨a,q,o,u,l⟩:=id S;refine zG ?_;dsimp only [iO];refine Ok.cps fun Q hq=> ?_;refine Ok.dc (eN rfl) (by keq_hits) ?_;lcg_off;refine(l7 S hb h).q1 ?_;rintro _ rfl;lcg_off;exact⟨rfl,rfl⟩
theorem Gw(b:List α)(s k:Nat):c8 b (some ((s:Int)*16)) (some (((s:Int)+(k:Int))*16))=(b.drop (s*16)).take (k*16):=by
 have:=tc b (a:=s*16) (c:=(s+k)*16) (by exact aaJ);rw [show(s+k)*16-s*16=k*16 by exact aaK] at this
 push_cast at this
 exact this
theorem BB{k:Nat}(S:dD false w r i jo jw b [] m)(hb:b.length=384)(h:s+k<=24):
  Ok (iO.1 [.obj i,.int s,.int k] m) fun v m'=>v= .bytes ((b.drop (s*16)).take (k*16))/\(∃r',dD false w r' i jo jw b [] m')/\fk (i+1) m m':=by
 refine az fun zG=> ?_;obtain⟨a,q,o,u,l⟩:=id S;refine zG ?_;dsimp only [iO];refine Ok.cps fun Q hq=> ?_;refine Ok.dc (eN rfl) (by keq_hits) ?_
 set_option tactic.hygienic true in lcg_off
 refine(l7 S hb (by exact aaL h)).q1 ?_
 set_option tactic.hygienic true in rintro _ rfl
 rename_i m;lcg_off;refine Ok.gq a q (by decide) (by exact Pj l) (iZ rfl) rfl fun m1 a1 r1 n1 o1=> ?_;have S1:=S.xI n1 o1 r1;refine az fun zG=> ?_;obtain⟨a',q',o',u',l'⟩:=id S1;refine zG ?_;lcg_off;refine Ok.aey o' rfl rfl (by exact Pm hb) ?_;rw [Gw];have x2:=Ext.new m1 (.ba ((b.drop (s*16)).take (k*16)));have S2:=S1.keep x2;have o2:=bc m1 (.ba ((b.drop (s*16)).take (k*16)));generalize m1.new (.ba ((b.drop (s*16)).take (k*16)))=m2 at x2 S2 o2;refine az fun zG=> ?_;obtain⟨a',q',o',u',l'⟩:=id S2;refine zG ?_;lcg_off;generalize hz:m1.n=z at o2;refine bL.forL jw [] (fun O fr m3=>m3=m2/\fr= [some (.obj i),some (.int s),some (.int k),some (.obj z),none,none,none]) ?_ ?_ ?_ ?_
 ·lcg_off;exact⟨rfl,rfl,rfl⟩
 ·rintro k fr _ ⟨rfl,_⟩;exact u'
 ·intro k v fr m e;exact absurd e (by simp)
 ·rintro fr _ ⟨rfl,rfl⟩;lcg_off;refine Ok.bya o2 (by rw [ig,oJ];exact aaM h) ?_;lcg_off;refine⟨rfl,⟨_,S2⟩,by have:=x2.n;exact aaN n1 this,fun t h1 h2=> ?_⟩;rw [x2.ob _ (by exact RW n1 h1),o1 _ h2]
noncomputable def ent(p:Nat×List UInt8):MV:= .tup [.int (p.1:Int),.bytes p.2]
noncomputable def fB(s:Nat)(p:List UInt8)(n:Nat):List (Nat×List UInt8):=(List.range n).map fun k=>(s+k,(p.drop (k*16)).take 16)
theorem vU(s:Nat)(p:List UInt8)(n:Nat):fB s p (n+1)=fB s p n++ [(s+n,(p.drop (n*16)).take 16)]:=by unfold fB;rw [List.range_succ,jb];rfl
theorem N_:Int.fdiv ((160:Nat):Int) 16=10:=rfl
theorem Oa(b:List α)(k:Nat):c8 b (some ((k:Int)*16)) (some (((k:Int)+1)*16))=(b.drop (k*16)).take 16:=Gw b k 1
theorem Az(S:dD false w r i jo jw b (W.map ent) m)(hb:b.length=384)(hp:p.length=160)(h:s+10<=24)(hW:W.length<=1000):
  Ok (oa.1 [.obj i,.int s,.bytes p] m) fun v m'=>(∃w',dD false w' r i jo jw b ((W++fB s p 10).map ent) m')/\ew i jo jw m m':=by
 refine az fun zG=> ?_;obtain⟨a,q,o,u,l⟩:=id S;refine zG ?_;dsimp only [oa];refine Ok.cps fun Q hq=> ?_;refine Ok.dc (eN rfl) (by keq_hits) ?_;lcg_off;refine Ok.xE (by exact ED hp) ?_;rw [hp];lcg_off;refine Ok.xE (by exact ED hp) ?_;rw [hp]
 set_option tactic.hygienic true in lcg_off
 rw [N_];refine(l7 S hb (by exact RH h)).q1 ?_
 set_option tactic.hygienic true in rintro _ rfl
 rename_i m;lcg_off;refine bL.forR 10 (fun k fr m1=>∃z,fr= [some (.obj i),some (.int s),some (.bytes p),some (.int 10),z]/\dD false w r i jo jw b ((W++fB s p k).map ent) m1/\ew i jo jw m m1) (bR rfl) ?_ ?_ ?_
 ·lcg_off;exact⟨rfl,_,rfl,by simpa [fB] using S,.refl _⟩
 ·intro k fr m1 hk IQ J hj;refine az fun zG=> ?_;obtain⟨z,rfl,S1,x1⟩:=IQ;refine zG ?_;refine az fun zG=> ?_;obtain⟨a1,q1,o1,u1,l1⟩:=id S1;refine zG ?_;lcg_off;refine Ok.sG rfl rfl (by exact ED hp) ?_;rw [Oa];lcg_off;refine Ok.app u1 ⟨by simp [fB];exact aaO hW hk,l1.2.2⟩ ?_;lcg_off;refine⟨_,rfl, ?_,x1.trans (.N9 _ _)⟩;have e:(W++fB s p (k+1)).map ent=(W++fB s p k).map ent++ [.tup [.int (↑s+ ↑k),.bytes ((p.drop (k*16)).take 16)]]:=by
   rw [vU, <- List.append_assoc,jb]
   congr 1
  rw [e];exact S1.N9 _
 ·intro fr m1 fN;refine az fun zG=> ?_;obtain⟨z,rfl,S1,x1⟩:=fN;refine zG ?_;refine az fun zG=> ?_;obtain⟨a1,q1,o1,u1,l1⟩:=id S1;refine zG ?_;lcg_off;refine Ok.gq a1 q1 (by decide) (by exact Pj l1) (iZ rfl) rfl fun m2 a2 r2 n2 o2=> ?_;lcg_off;exact⟨⟨_,S1.xI n2 o2 r2⟩,x1.trans (.Gv n2 o2)⟩
noncomputable def putD(b:List UInt8)(p:Nat×List UInt8):List UInt8:=b.take (p.1*16)++p.2++b.drop ((p.1+1)*16)
theorem Lf{b:List UInt8}{p:Nat×List UInt8}(hb:b.length=384)(h:p.1<24)(hx:p.2.length=16):(putD b p).length=384:=by
 unfold putD;simp only [List.length_append,List.length_take,List.length_drop];exact aaP hb h hx
theorem D4{x:List UInt8}(S:dD out w r i jo jw b ws m)(hb:b.length=384)(h:s<24)(hx:x.length=16):
  Ok (qI.1 [.obj i,.int s,.bytes x] m) fun v m'=>m'=m.set jo (.ba (putD b (s,x))):=by
 refine az fun zG=> ?_;obtain⟨a,q,o,u,l⟩:=id S;refine zG ?_;dsimp only [qI];refine Ok.cps fun Q hq=> ?_;refine Ok.dc (eN rfl) (by keq_hits) ?_;lcg_off;have e1:((s:Int)*16).toNat=s*16:=by exact aaQ
 have e2:(((s:Int)+1)*16).toNat=(s+1)*16:=by exact aaR
 refine Ok.of (a:=()) (m':=m.set jo (.ba (putD b (s,x)))) ?_ ?_
 ·refine(Ai o).trans ((if_pos ⟨by exact aaS,by exact aaT,by exact aaU hb h,by exact aaV hx e1 e2,by exact Pm hb,l.2.1⟩).trans ?_);rw [e1,e2];rfl
 lcg_off
 rfl
theorem AA(S:dD false w r i jo jw b (W.map ent) m)(hb:b.length=384)(hW:∀p∈W,p.1<24/\p.2.length=16):
  Ok (og.1 [.obj i] m) fun v m'=>(∃oq,m.n<=oq/\dD false w r i jo oq (W.foldl putD b) [] m')/\ew i jo jw m m':=by
 refine az fun zG=> ?_;obtain⟨a,q,o,u,l⟩:=id S;refine zG ?_;dsimp only [og];refine Ok.cps fun Q hq=> ?_;refine Ok.dc (eN rfl) (by keq_hits) ?_;lcg_off;refine bL.forL jw (W.map ent) (fun k fr m1=>(∃z1 z2,fr= [some (.obj i),z1,z2])/\dD false w r i jo jw ((W.take k).foldl putD b) (W.map ent) m1/\((W.take k).foldl putD b).length=384/\ew i jo jw m m1) ?_ ?_ ?_ ?_
 ·lcg_off;exact⟨rfl,⟨_,_,rfl⟩,S,hb,.refl _⟩
 ·intro k fr m1 mM;refine az fun zG=> ?_;obtain⟨_,S1,_⟩:=mM;refine zG ?_;exact S1.w
 ·intro k v fr m1 e jJ J hj;refine az fun zG=> ?_;obtain⟨⟨z1,z2,rfl⟩,S1,KW,x1⟩:=jJ;refine zG ?_;rw [ja,nN] at e;refine az fun zG=> ?_;obtain⟨p,hp,rfl⟩:=e;refine zG ?_;obtain⟨h1,h2⟩:=hW _ (jC hp);refine az fun zG=> ?_;obtain⟨a1,q1,o1,u1,l1⟩:=id S1;refine zG ?_;unfold ent;lcg_off;refine(D4 S1 KW h1 h2).mono ?_;rintro _ m2 rfl;lcg_off;rw [cW hp,List.foldl_append];exact⟨⟨_,_,rfl⟩,S1.sN _,Lf KW h1 h2,x1.trans (.sN _ _)⟩
 ·intro fr m1 fN;refine az fun zG=> ?_;obtain⟨⟨z1,z2,rfl⟩,S1,KW,x1⟩:=fN;refine zG ?_;rw [eW,hF] at S1;have x2:=Ext.new m1 (.list []);have S2:=S1.keep x2;refine az fun zG=> ?_;obtain⟨a2,q2,o2,u2,l2⟩:=id S2;refine zG ?_;lcg_off;refine Ok.gq a2 q2 (by decide) (by exact Pj l2) (iZ rfl) rfl fun m3 a3 r3 n3 o3=> ?_;lcg_off;refine az fun zG=> ?_;obtain⟨n1,n2,n3',n4,n5⟩:=S2.ne;refine zG ?_;have l1:=S1.l;refine⟨⟨m1.n,x1.n,⟨a3,r3, ?_, ?_, ?_⟩⟩,x1.trans ((ew.of x2).trans (.Gv n3 o3))⟩
  ·rw [o3 _ (by exact aaW n3' n4 n5)];exact o2
  ·rw [o3 _ (by exact aaX l1)];exact bc _ _
  ·rw [n3,eu];exact aaY l1
theorem qP(hb:b.length=384)(hp:p.length=160)(hs:s+10<=24):∀n,n<=10->(fB s p n).foldl putD b=b.take (s*16)++p.take (n*16)++b.drop ((s+n)*16)
 |0,_=>by simp [fB]
 |n+1,h=>by
  rw [vU,List.foldl_append,qP hb hp hs n (by exact aaZ h)];simp only [List.foldl_cons,List.foldl_nil];unfold putD;simp only;have l1:(b.take (s*16)).length=s*16:=by rw [ig];exact aa0 hb hs
  have l2:(p.take (n*16)).length=n*16:=by rw [ig];exact aa1 hp h
  have t1:(b.take (s*16)++p.take (n*16)++b.drop ((s+n)*16)).take ((s+n)*16)=b.take (s*16)++p.take (n*16):=List.take_left' (by rw [ir,l1,l2];exact aa2);have t2:(b.take (s*16)++p.take (n*16)++b.drop ((s+n)*16)).drop ((s+n+1)*16)=b.drop ((s+(n+1))*16):=by
   rw [show(s+n+1)*16=(b.take (s*16)++p.take (n*16)).length+16 by rw [ir,l1,l2];exact aa3, <- List.drop_drop,List.drop_left' rfl,List.drop_drop]
   congr 1
   exact aa4
  have t3:p.take ((n+1)*16)=p.take (n*16)++(p.drop (n*16)).take 16:=by
   rw [show(n+1)*16=n*16+16 by exact aa5,List.take_add]
  rw [t1,t2,t3];simp only [List.append_assoc]
theorem BC{at' v:Nat}(S:dD out w r i jo jw b ws m)(hb:b.length=384)(h1:s<24)(h2:at'<16)(h3:v<256):
  Ok (pP.1 [.obj i,.int s,.int at',.int v] m) fun O m'=>m'=m.set jo (.ba (b.set (s*16+at') v.toUInt8)):=by
 refine az fun zG=> ?_;obtain⟨a,q,o,u,l⟩:=id S;refine zG ?_;dsimp only [pP];refine Ok.cps fun Q hq=> ?_;refine Ok.dc (eN rfl) (by keq_hits) ?_
 set_option tactic.hygienic true in lcg_off
 refine(l7 S hb (by exact aa6 h1)).q1 ?_
 set_option tactic.hygienic true in rintro _ rfl
 rename_i m;lcg_off;have e1:((s:Int)*16+(at':Int)).toNat=s*16+at':=by exact Rr
 refine Ok.of (a:=()) (m':=m.set jo (.ba (b.set (s*16+at') v.toUInt8))) ?_ ?_
 ·show DA _ _ jo m (m.ob jo)=_;rw [o];refine(if_pos ⟨by exact aa7 e1,by exact aa8 hb h1 h2,by exact Pm hb,by exact O2,by exact RX h3,l.2.1⟩).trans ?_;rw [e1,l9]
 lcg_off
 rfl
end
end
section
variable {b x:List UInt8}
section
variable {Q:MV->MH->Prop}{QB:Bool->MH->Prop}{m:MH}
noncomputable def s1(x:List UInt8):Int:=(x.map fun c=>(c.toNat:Int)).sum
noncomputable def s2(x:List UInt8):Int:=((List.range x.length).map fun(k:Nat)=>((k:Int)+1)*((x.getD k 0).toNat:Int)).sum
noncomputable def mq(x:List UInt8):List UInt8:=bP 4 ((1+s1 x).fmod 4294967296)++bP 4 ((s2 x).fmod 4294967296)
theorem Ok.aeW(h:b.length<=100000)(q:Q (.int (s1 b)) m):Ok (Jz (.bytes b) m) Q:= .of (if_pos h) q
theorem Ok.aeX{i:Nat}{ns:List Int}(o:m.ob i= .list (ns.map .int))(h:(∀n∈ns,0<=n)/\ns.sum<2 ^ 62)(q:Q (.int ns.sum) m):Ok (Jz (.obj i) m) Q:= .of ((cC o).trans ((aV (mn _)).trans (if_pos h))) q
theorem Ob(m:MH):Jw (.int 2) (.int 32) m=some (.int 4294967296,m):=by rw [F_ ⟨by decide,by decide,by decide⟩];rfl
theorem QN{l:List Int}{c:Int}(h:∀x∈l,x<=c):l.sum<=c*l.length:=by
 induction l with
 |nil=>simp
 |cons a r ih=>
  rw [List.sum_cons,oK];have h1:=h a rI;have h2:=ih fun x hx=>h x (List.mem_cons_of_mem _ hx)
  push_cast
  rw [Int.mul_add,Int.mul_one];exact aaq h1 h2
theorem vV(hx:x.length<=1000):Ok (nj.1 [.bytes x] m) fun v m'=>v= .bytes (mq x)/\Ext m m':=by
 dsimp only [nj];refine Ok.cps fun Q hq=> ?_;refine Ok.dc (eN rfl) (by keq_hits) ?_;lcg_off;refine Ok.aeW (by exact lk hx) ?_
 set_option tactic.hygienic true in lcg_off
 refine Ok.comp x.length ⟨fun O=>some x.length,fun k O=>x[k]?.map fun c=> .tup [.int (k:Int),.int (c.toNat:Int)]⟩ (fun fr=>∃z1 z2,fr= [z1,z2])
  (fun k ys m1=>m1=m/\ys=((List.range k).map fun(k:Nat)=>((k:Int)+1)*((x.getD k 0).toNat:Int)).map MV.int) (by exact lk hx) ?_ ⟨_,_,rfl⟩ (fun O O O O O=>rfl) ?_ ?_
 ·lcg_off;refine Ok.of rfl ?_;exact⟨rfl,rfl,rfl⟩
 ·intro k ys fr _ hk jJ gQ;refine az fun zG=> ?_;obtain⟨rfl,rfl⟩:=jJ;obtain⟨z1,z2,rfl⟩:=gQ;refine zG ?_;refine⟨.tup [.int (k:Int),.int ((x.getD k 0).toNat:Int)], ?_, ?_⟩
  ·show Option.map _ (x[k]?)=_;rw [iq hk,pj,iq hk];rfl
  have h8:(x.getD k 0).toNat<256:=(x.getD k 0).toNat_lt;lcg_off;exact⟨⟨_,_,rfl⟩,rfl,by rw [List.range_succ,jb,jb];rfl⟩
 set_option tactic.hygienic true in rintro ys _ ⟨rfl,rfl⟩
 rename_i m;lcg_off;refine Ok.aeX (bc _ _) ⟨fun n hn=> ?_, ?_⟩ ?_
 ·rw [List.mem_map] at hn;refine az fun zG=> ?_;obtain⟨k,_,rfl⟩:=hn;refine zG ?_;exact Int.mul_nonneg (by exact aar) (by exact O2)
 ·refine Int.lt_of_le_of_lt (QN (c:=1000*255) fun n hn=> ?_) ?_
  ·rw [List.mem_map] at hn;refine az fun zG=> ?_;obtain⟨k,hk,rfl⟩:=hn;refine zG ?_;have:=List.mem_range.mp hk;have h8:(x.getD k 0).toNat<256:=(x.getD k 0).toNat_lt;exact Int.mul_le_mul (by exact aas hx this) (by exact aat h8) (by exact O2) (bR rfl)
  ·rw [eW,List.length_range]
   omega
 lcg_off;refine Ok.of (Ob _) ?_;lcg_off;have r1:=eO (1+s1 x) (k:=4294967296) (by decide);have r2:=eO (s2 x) (k:=4294967296) (by decide);refine Ok.ex (hV (k:=4) r1.1 (by exact L2 r1) (by decide) _) fun m1 x1=> ?_;lcg_off;refine Ok.of (Ob _) ?_;lcg_off;refine Ok.ex (hV (k:=4) r2.1 (by exact L2 r2) (by decide) _) fun m2 x2=> ?_;lcg_off;refine Ok.Gj (by rw [aw,aw];exact aau) ?_;lcg_off;exact⟨rfl,((Ext.new _ _).trans x1).trans x2⟩
theorem IS{n:Nat}(h:x.length<=n)(hn:n<=1000):Ok (uG.1 [.bytes x,.int n] m) fun v m'=>v= .bytes (x++List.replicate (n-x.length) 0)/\m'=m:=by
 dsimp only [uG];refine Ok.cps fun Q hq=> ?_;refine Ok.dc (eN rfl) (by keq_hits) ?_;lcg_off;refine Ok.xE (by exact RV h hn) ?_;lcg_off;refine Ok.xE (by exact RV h hn) ?_;lcg_off;refine Ok.byi (by exact aav h hn) ?_;lcg_off;refine Ok.Gj (by rw [List.length_replicate];exact aaw h hn) ?_;lcg_off;exact⟨by rw [show((n:Int)-(x.length:Int)).toNat=n-x.length by exact aax h],rfl⟩
noncomputable def sO(b:List UInt8):List UInt8:=bP 4 b.length++b
noncomputable def eV(b:List UInt8):List UInt8:=(mq (sO b)++sO b)++List.replicate (160-(12+b.length)) 0
theorem nK(x:List UInt8):(mq x).length=8:=by unfold mq;rw [ir,aw,aw]
theorem qQ(b:List UInt8):(sO b).length=4+b.length:=by unfold sO;rw [ir,aw]
theorem iA(h:b.length<=148):(eV b).length=160:=by
 unfold eV;rw [ir,ir,nK,qQ,List.length_replicate];exact aay h
theorem yx{sh:Nat}(S:c9 m sh)(hb:b.length<=148):Ok (mI.1 [.obj sh,.bytes b] m) fun v m'=>v= .bytes (eV b)/\Ext m m':=by
 refine az fun zG=> ?_;obtain⟨a,r,l⟩:=id S;refine zG ?_;dsimp only [mI];refine Ok.cps fun Q hq=> ?_;refine Ok.dc (eN rfl) (by keq_hits) ?_
 set_option tactic.hygienic true in lcg_off
 refine(km S).q1 ?_
 set_option tactic.hygienic true in rintro _ rfl
 rename_i m;lcg_off;refine Ok.xE (by exact lk hb) ?_;lcg_off;refine Ok.xE (by exact lk hb) ?_;lcg_off;refine Ok.ex (hV (n:=(b.length:Int)) (k:=4) (by exact O2) (by exact TS hb) (by decide) _) fun m1 x1=> ?_;lcg_off;refine Ok.Gj (by rw [aw];exact aaz hb) ?_;lcg_off;refine(vV (x:=sO b) (by rw [qQ];exact Pr hb)).q1 ?_;intro m2 x2;lcg_off;refine Ok.Gj (by rw [ir,aw,nK];exact aaA hb) ?_;lcg_off;refine(IS (x:=mq (sO b)++sO b) (n:=160) (by rw [ir,qQ,nK];exact aaB hb) (bR rfl)).q1 ?_;rintro _ rfl;lcg_off;refine⟨?_,x1.trans x2⟩;unfold eV;rw [ir,qQ,nK,show 8+(4+b.length)=12+b.length by exact aaC]
end
end
section
variable {x:List UInt8}{s:Nat}
theorem bL.IT{ci:av->MM Src}{tg:MV->SM}{body:SM}{fr:av}{m:MH}{Q:eH->av->MH->Prop}(xs:List MV)(I:Nat->Nat->av->MH->Prop)(hc:Ok (ci fr m) fun src m1=>∃i,src=srcOf (.obj i)/\I i 0 fr m1)(ho:∀i k fr m,I i k fr m->m.ob i= .list xs)
  (step:∀i k v fr m,xs[k]? =some v->I i k fr m->∀J,(∀fr m,I i (k+1) fr m->J fr m)->bL (tg v fr m) (IH body (pR J Q)))(done:∀i fr m,I i xs.length fr m->Q .next fr m):bL (SM.forIn ci tg body fr m) Q:=by
 refine az fun zG=> ?_;obtain⟨src,m1,e,i,h1,h2⟩:=hc;refine zG ?_;exact bL.forL i xs (I i) ⟨src,m1,e,h1,h2⟩ (ho i) (step i) (done i)
theorem qR(a b c d:UInt8):numOf [a,b,c,d]=(a.toNat:Int)+b.toNat*256+c.toNat*65536+d.toNat*16777216:=by
 have e (x y z u v:Int) (hv:v=1) (hx:x=256) (hy:y=65536) (hz:z=16777216):(a.toNat:Int)*v+((b.toNat:Int)*x+((c.toNat:Int)*y+((d.toNat:Int)*z+0)))=(a.toNat:Int)+b.toNat*256+c.toNat*65536+d.toNat*16777216:=by
  rw [hv,hx,hy,hz,Int.mul_one,Int.add_zero];exact Zv
 exact e (2 ^ (8*1)) (2 ^ (8*2)) (2 ^ (8*3)) 0 (2 ^ (8*0)) rfl rfl rfl rfl
theorem tB{x:List α}{n:Nat}(h:x.length=n+1):∃a r,r.length=n/\x=a::r:=by
 cases x with
 |nil=>cases h
 |cons a r=>exact⟨a,r,Nat.succ.inj h,rfl⟩
theorem four(h:x.length=4):∃a b c d,x= [a,b,c,d]:=by
 obtain⟨a,x1,h1,rfl⟩:=tB h;obtain⟨b,x2,h2,rfl⟩:=tB h1;obtain⟨c,x3,h3,rfl⟩:=tB h2;obtain⟨d,x4,h4,rfl⟩:=tB h3;cases x4 with
 |nil=>exact⟨a,b,c,d,rfl⟩
 |cons a r=>cases h4
theorem D5{a v:α}{k:Nat}(e: [a][k]? =some v):k=0/\a=v:=by
 cases k with
 |zero=>exact⟨rfl,d9 e⟩
 |succ k=>cases e
theorem JX{k:Nat}{v:MV}(e: [MV.int 0,.int 13][k]? =some v):∃s:Nat,v= .int s/\s<=13/\((k=0/\s=0)\/(k=1/\s=13)):=by
 cases k with
 |zero=>exact⟨0,(d9 e).symm,bR rfl,.inl ⟨rfl,rfl⟩⟩
 |succ k=>exact⟨13,(D5 e).2.symm,bR rfl,.inr ⟨congrArg Nat.succ (D5 e).1,rfl⟩⟩
theorem IU(h:x.length=4):0<=numOf x/\numOf x<2 ^ 32:=by
 refine az fun zG=> ?_;obtain⟨a,b,c,d,rfl⟩:=four h;refine zG ?_;rw [qR];have:=a.toNat_lt;have:=b.toNat_lt;have:=c.toNat_lt;have:=d.toNat_lt;exact Zw (by assumption) (by assumption) (by assumption) this
noncomputable def ia(p:List UInt8):Nat:=(numOf ((p.drop 8).take 4)).toNat
noncomputable def ib(p:List UInt8):MV:=if 12+ia p<=160/\mq ((p.drop 8).take (4+ia p))=p.take 8 then .bytes ((p.drop 12).take (ia p)) else .none
section
variable {m m':MH}{i jo jw sh:Nat}{b:List UInt8}{ws:List MV}{out:Bool}{r w:Int}
theorem BD{p:List UInt8}(hp:p.length=160):Ok (pQ.1 [.bytes p] m) fun v m'=>v=ib p/\Ext m m':=by
 have h4:((p.drop 8).take 4).length=4:=by rw [ig,oJ];exact Zx hp
 obtain⟨n1,n2⟩:=IU h4;have hN:numOf ((p.drop 8).take 4)=(ia p:Int):=by unfold ia;exact Pn n1
 dsimp only [pQ];refine Ok.cps fun Q hq=> ?_;refine Ok.dc (eN rfl) (by keq_hits) ?_;lcg_off;refine Ok.sG rfl rfl (by exact ED hp) ?_;have e1:c8 p (some 8) (some (8+4))=(p.drop 8).take 4:=tc p (a:=8) (c:=12) (bR rfl);rw [e1];lcg_off;refine Ok.ex (iH (by rw [h4];exact O4) (by exact Zy n2) m) fun m1 x1=> ?_;rw [hN];lcg_off;refine Ok.xE (by exact ED hp) ?_
 by_cases hl:12+ia p<=160
 ·have e2:c8 p (some 8) (some (8+4+(ia p:Int)))=(p.drop 8).take (4+ia p):=by
   have:=tc p (a:=8) (c:=12+ia p) (by exact Zz);rw [show 12+ia p-8=4+ia p by exact ZA] at this
   push_cast at this
   rw [show(8:Int)+4+ia p=12+ia p by exact RG];exact this
  have e3:c8 p (some (8+4)) (some (8+4+(ia p:Int)))=(p.drop 12).take (ia p):=by
   have:=tc p (a:=12) (c:=12+ia p) (by exact ZC);rw [show 12+ia p-12=ia p by exact ZD] at this
   push_cast at this
   rw [show(8:Int)+4+ia p=12+ia p by exact RG];exact this
  have e4:c8 p none (some 8)=p.take 8:=ux p 8;lcg_off;refine Ok.sG rfl rfl (by exact ED hp) ?_;rw [e2];lcg_off;refine(vV (by rw [ig];exact ZE hl)).q1 ?_;intro m2 x2;lcg_off;refine Ok.sG rfl rfl (by exact ED hp) ?_;rw [e4];lcg_off;refine Ok.eqb ?_
  by_cases hs:mq ((p.drop 8).take (4+ia p))=p.take 8
  ·rw [show(mq ((p.drop 8).take (4+ia p))==p.take 8)=true by rw [hs];exact beq_self_eq_true _];lcg_off;refine Ok.sG rfl rfl (by exact ED hp) ?_;rw [e3];lcg_off;exact⟨by unfold ib;rw [if_pos ⟨hl,hs⟩],x1.trans x2⟩
  ·rw [show(mq ((p.drop 8).take (4+ia p))==p.take 8)=false from beq_false_of_ne hs];lcg_off;exact⟨by unfold ib;rw [if_neg fun h=>hs h.2],x1.trans x2⟩
 ·lcg_off;exact⟨by unfold ib;rw [if_neg fun h=>hl h.1],x1⟩
theorem D6(p:List UInt8):ib p= .none\/∃x,ib p= .bytes x:=by
 unfold ib
 split
 ·exact .inr ⟨_,rfl⟩
 ·exact .inl rfl
noncomputable def tell(b:List UInt8)(out:Bool):MV:=if out=true then .none else match ib (b.take 160) with
 | .none=>ib ((b.drop 208).take 160)
 |v=>v
theorem c9.VF{m2:MH}(S:dD out w r i jo jw b ws m)(h:c9 m sh)(x:fk (i+1) m m2):c9 m2 sh:=by
 refine az fun zG=> ?_;obtain⟨a,q,l⟩:=h;refine zG ?_;refine⟨(x.ob _ (by exact O3 l) fun e=> ?_).trans a,(x.ob _ l fun e=> ?_).trans q,eE l x.n⟩
 ·rw [e,S.r] at a;cases a
 ·obtain rfl:sh=i:=by exact TB e
  rw [S.a] at a;injection a with a;exact absurd a (bR rfl)
theorem Lg(hb:b.length=384)(hs:s<=14):((b.drop (s*16)).take (10*16)).length=160:=by rw [ig,oJ];exact ZF hb hs
noncomputable def wX(b:List UInt8)(out:Bool)(s:Nat):MV:=if out=true then .none else ib ((b.drop (s*16)).take (10*16))
theorem AB(S:dD out w r i jo jw b [] m)(hb:b.length=384)(h:s+10<=24):
  Ok (iO.1 [.obj i,.int s,.int 10] m) fun v m'=>v=(if out=true then .none else .bytes ((b.drop (s*16)).take (10*16)))/\(∃r',dD out w r' i jo jw b [] m')/\fk (i+1) m m':=by
 cases out with
 |true=>
  refine(Ay S hb (by exact RH h)).q1 ?_;rintro _ rfl;exact⟨rfl,⟨_,S⟩,.refl _⟩
 |false=>exact BB (k:=10) S hb h
theorem yy(S:dD out w r i jo jw b [] m)(hb:b.length=384)(hs:c9 m sh):
  Ok (gx.1 [.obj i,.obj sh] m) fun v m'=>v=tell b out/\(∃r',dD out w r' i jo jw b [] m')/\fk (i+1) m m':=by
 have ht:tell b out=match wX b out 0 with
   | .none=>wX b out 13
   |v=>v:=by
  delta tell wX;cases out <;> rfl
 dsimp only [gx];refine Ok.cps fun Q hq=> ?_;refine Ok.dc (eN rfl) (by keq_hits) ?_;lcg_off;refine bL.IT [.int 0,.int 13] (fun lo k fr m1=>(∃z1 z2 z3,fr= [some (.obj i),some (.obj sh),z1,z2,z3])/\(∃r',dD out w r' i jo jw b [] m1)/\c9 m1 sh/\fk (i+1) m m1/\m.n<=lo/\lo<m1.n/\m1.ob lo= .list [.int 0,.int 13]/\(1<=k->wX b out 0= .none)/\(2<=k->wX b out 13= .none)) ?_ ?_ ?_ ?_
 ·lcg_off;refine(qk S hb hs).nl ?_;intro o m1 h1 h2 h3 x1;lcg_off;exact⟨_,rfl,⟨_,_,_,rfl⟩,⟨_,S.keep x1⟩,hs.keep x1,.of x1,h1,h2,h3,by omega,by omega⟩
 ·intro lo k fr m1 IQ;refine az fun zG=> ?_;obtain⟨_,_,_,_,_,_,h,_⟩:=IQ;refine zG ?_;exact h
 ·intro lo k v fr m1 e gQ J hj;refine az fun zG=> ?_;obtain⟨⟨z1,z2,z3,rfl⟩,⟨r1,S1⟩,rX,x1,qS,mN,u9,t0,t1⟩:=gQ;refine zG ?_;obtain⟨s,rfl,JY,uk⟩:=JX e;refine az fun zG=> ?_;obtain⟨a1,q1,_,_,l1⟩:=id S1;refine zG ?_;have hL:=S.l
  set_option tactic.hygienic true in lcg_off
  refine(km rX).q1 ?_
  set_option tactic.hygienic true in rintro _ rfl
  rename_i m1;lcg_off;refine(AB S1 hb (by exact RI JY)).q2 ?_;rintro m2 ⟨r2,S2⟩ x2;have wD:=c9.VF S1 rX x2;have px:=(x2.ob _ mN (by exact ZG qS hL)).trans u9;have oI:=x2.n;cases out with
  |true=>
   rw [if_pos rfl];lcg_off;refine Ok.of (a:=true) rfl ?_;lcg_off;refine Ok.of (a:=true) rfl ?_;lcg_off;exact⟨⟨_,_,_,rfl⟩,⟨_,S2⟩,wD,x1.trans x2,qS,by exact Hf mN oI,px,fun O=>rfl,fun O=>rfl⟩
  |false=>
   rw [if_neg (by decide)];lcg_off;refine Ok.of (a:=false) rfl ?_;lcg_off;refine(BD (Lg hb (by exact lk JY))).q1 ?_;intro m3 x3;have e1:wX b false s=ib ((b.drop (s*16)).take (10*16)):=if_neg (by decide);rw [<- e1];have wY:=x3.n;rcases D6 ((b.drop (s*16)).take (10*16)) with h|⟨y,h⟩
   ·rw [<- e1] at h;rw [h];lcg_off;refine Ok.of (a:=true) rfl ?_;lcg_off;refine⟨⟨_,_,_,rfl⟩,⟨_,S2.keep x3⟩,wD.keep x3,(x1.trans x2).trans (.of x3),qS,by exact RJ mN oI wY,(x3.ob _ (by exact Hf mN oI)).trans px,fun O=> ?_,fun O=> ?_⟩
    ·rcases uk with⟨rfl,rfl⟩|⟨rfl,rfl⟩
     ·exact h
     ·exact t0 (by decide)
    ·rcases uk with⟨rfl,rfl⟩|⟨rfl,rfl⟩
     ·omega
     ·exact h
   ·rw [<- e1] at h;rw [h];lcg_off;refine Ok.of (a:=false) rfl ?_;lcg_off;refine⟨?_,⟨_,S2.keep x3⟩,(x1.trans x2).trans (.of x3)⟩;rw [ht];rcases uk with⟨rfl,rfl⟩|⟨rfl,rfl⟩
    ·rw [h]
    ·rw [t0 (by decide),h]
 ·intro lo fr m1 mM;refine az fun zG=> ?_;obtain⟨⟨z1,z2,z3,rfl⟩,⟨r1,S1⟩,rX,x1,qS,mN,u9,t0,t1⟩:=mM;refine zG ?_;lcg_off;refine⟨?_,⟨_,S1⟩,x1⟩;rw [ht,t0 (bR rfl),t1 (bR rfl)]
end
end
section
variable {v x:MV}{C:ea}{g:Int}{P:List UInt8}{d:Nat}
section
variable {Q:MV->MH->Prop}{QB:Bool->MH->Prop}{m m0 m':MH}{i jo jw sh:Nat}{b:List UInt8}{ws:List MV}{out:Bool}{r w:Int}
theorem wZ(h:eZ m v C)(hC:ConfOK C)(hg:Av g):Ok (lJ.1 [.int g,v] m) fun u m'=>u= .bytes (bP 4 g++gn C)/\Ext m m':=by
 have hc:=qi hC;dsimp only [lJ];refine Ok.cps fun Q hq=> ?_;refine Ok.dc (eN rfl) (by keq_hits) ?_;lcg_off;refine Ok.ex (hV (k:=4) hg.1 (by have:=hg.2;exact TR this) (bR rfl) m) fun m1 x1=> ?_;lcg_off;refine(pe (h.keep (.of x1)) hC).q1 ?_;intro m2 x2;lcg_off;refine Ok.Gj (by rw [aw];exact Hd hc) ?_;lcg_off;exact⟨rfl,x1.trans x2⟩
theorem Gx(s:Nat)(p:List UInt8)(n:Nat):(fB s p n).length=n:=by simp [fB]
theorem Ext.only(x:Ext m0 m)(h:m0.n<=i/\m0.n<=jo/\m0.n<=jw)(y:ew i jo jw m m'):Ext m0 m':=⟨jc x.n y.n,fun t ht=>(y.ob t (eE ht x.n) (by exact abt h ht) (by exact abu h ht) (by exact abv h ht)).trans (x.ob t ht)⟩
theorem AD{X:List UInt8}{W:List (Nat×List UInt8)}(x0:Ext m0 m)(h0:m0.n<=i/\m0.n<=jo/\m0.n<=jw)(hs:c9 m0 sh)(S:dD false w r i jo jw b (W.map ent) m)(hb:b.length=384)(hX:X.length<=148)(hW:W.length<=100):
  Ok (oh.1 [.obj i,.obj sh,.bytes X] m) fun O m'=>(∃w',dD false w' r i jo jw b ((W++fB 0 (eV X) 10++fB 13 (eV X) 10).map ent) m')/\ew i jo jw m m':=by
 have hP:=iA hX;dsimp only [oh];refine Ok.cps fun Q hq=> ?_;refine Ok.dc (eN rfl) (by keq_hits) ?_;lcg_off;refine(yx (hs.keep x0) hX).q1 ?_;intro m1 x1;have S1:=S.keep x1;have hL:=S.l;lcg_off;refine bL.IT [.int 0,.int 13] (fun lo k fr m2=>(∃z,fr= [some (.obj i),some (.obj sh),some (.bytes X),some (.bytes (eV X)),z])/\(∃w',dD false w' r i jo jw b ((W++(if 1<=k then fB 0 (eV X) 10 else [])++(if 2<=k then fB 13 (eV X) 10 else [])).map ent) m2)/\ew i jo jw m m2/\m.n<=lo/\lo<m2.n/\m2.ob lo= .list [.int 0,.int 13]) ?_ ?_ ?_ ?_
 ·lcg_off;refine(qk S1 hb ((hs.keep x0).keep x1)).nl ?_;intro o m2 h1 h2 h3 x2;lcg_off;exact⟨_,rfl,⟨_,rfl⟩,⟨_,by simpa using S1.keep x2⟩,.of (x1.trans x2),by have:=x1.n;exact abw h1 this,h2,h3⟩
 ·intro lo k fr m2 IQ;refine az fun zG=> ?_;obtain⟨_,_,_,_,_,h⟩:=IQ;refine zG ?_;exact h
 ·intro lo k v fr m2 e gQ J hj;refine az fun zG=> ?_;obtain⟨⟨z,rfl⟩,⟨w2,S2⟩,x2,qS,AY,px⟩:=gQ;refine zG ?_;refine az fun zG=> ?_;obtain⟨a2,q2,_,_,l2⟩:=id S2;refine zG ?_;obtain⟨s,rfl,JY,uk⟩:=JX e;lcg_off;refine(Az (s:=s) S2 hb hP (by exact RI JY) ?_).mono ?_
  ·rw [ir,ir]
   split <;> split <;> simp [Gx] <;> omega
  intro v m3 fN;refine az fun zG=> ?_;obtain⟨⟨w3,S3⟩,x3⟩:=fN;refine zG ?_;lcg_off;refine⟨⟨_,rfl⟩,⟨w3, ?_⟩,x2.trans x3,qS,by have:=x3.n;exact Hf AY this,(x3.ob _ AY (by exact TX hL qS) (by exact TY hL qS) (by exact TZ hL qS)).trans px⟩;rcases uk with⟨rfl,rfl⟩|⟨rfl,rfl⟩
  ·simpa using S3
  ·simpa using S3
 ·intro lo fr m2 mM;refine az fun zG=> ?_;obtain⟨⟨z,rfl⟩,⟨w2,S2⟩,x2,qS,AY,px⟩:=mM;refine zG ?_;lcg_off;exact⟨⟨_,S2⟩,x2⟩
noncomputable def iY(P b:List UInt8):List UInt8:=(P++b.drop 160).take 208++P++(P++b.drop 160).drop 368
theorem VG(hb:b.length=384)(hP:P.length=160):(fB 0 P 10++fB 13 P 10).foldl putD b=iY P b:=by
 rw [List.foldl_append,qP hb hP (by decide) 10 (by decide)];have h1:b.take (0*16)++P.take (10*16)++b.drop ((0+10)*16)=P++b.drop 160:=by
  rw [show(0*16)=0 from rfl,List.take_zero,List.nil_append,qV (by exact R1 hP)]
 rw [h1,qP (by rw [ir,oJ];exact abx hb hP) hP (by decide) 10 (by decide)];unfold iY;rw [qV (l:=P) (by exact R1 hP)]
theorem AE{s:Nat}(hP:P.length=160)(hs:s+10<=24):∀p∈fB s P 10,p.1<24/\p.2.length=16:=fun p hp=>by
 unfold fB at hp;rw [List.mem_map] at hp;refine az fun zG=> ?_;obtain⟨k,hk,rfl⟩:=hp;refine zG ?_;have:=List.mem_range.mp hk;exact⟨by simp only;exact aby hs this,by simp only [List.length_take,List.length_drop];exact abz hP this⟩
theorem Ok.Oc(o:m.ob d= .dict [(g,x)])(q:Q (.obj m.n) (m.new (.list [.int g]))):Ok (z_ (.obj d) m) Q:= .of (a:= .obj m.n) (m':=m.new (.list [.int g])) ((Aj o).trans (if_pos (iZ rfl))) q
theorem Ok.Tp{es:List (Int×MV)}(o:m.ob d= .dict es)(e:lA g es=some x)(q:Q x m):Ok (zR (.obj d) (.int g) m) Q:= .of (by show zQ g m (m.ob d)=_;rw [o];exact aV e) q
theorem w5{dd:Nat}(x0:Ext m0 m)(h0:m0.n<=i/\m0.n<=jo/\m0.n<=jw)(hs:c9 m0 sh)(hc:eZ m0 v C)(hC:ConfOK C)(hg:Av g)(hl:4+(gn C).length<=148)
  (S:dD false w r i jo jw b [] m)(hb:b.length=384)(hd:m.ob dd= .dict [(g,.obj i)])(C8:dd<m.n):
  Ok (lK.1 [.obj dd,v,.obj sh] m) fun O m'=>(∃oq w',m0.n<=oq/\dD false w' r i jo oq (iY (eV (bP 4 g++gn C)) b) [] m')/\Ext m0 m':=by
 have Lh:(bP 4 g++gn C).length<=148:=by rw [ir,aw];exact abA hl
 have hP:=iA Lh;have hL:=S.l;have hdi:dd≠i+1:=fun e=>by rw [e,S.r] at hd;cases hd
 have hdo:dd≠jo:=fun e=>by rw [e,S.o] at hd;cases hd
 have hdw:dd≠jw:=fun e=>by rw [e,S.w] at hd;cases hd
 have vf:lA g [(g,MV.obj i)]=some (.obj i):=if_pos rfl;dsimp only [lK];refine Ok.cps fun Q hq=> ?_;refine Ok.dc (eN rfl) (by keq_hits) ?_;lcg_off;refine bL.IT [.int g] (fun lo k fr m2=>(∃z,fr= [some (.obj dd),some v,some (.obj sh),z])/\Ext m0 m2/\m2.ob lo= .list [.int g]/\(k=0->dD false w r i jo jw b [] m2/\m2.ob dd= .dict [(g,.obj i)]/\m.n<=lo/\lo<m2.n/\m.n<=m2.n)/\(k=1->∃oq w',m0.n<=oq/\dD false w' r i jo oq (iY (eV (bP 4 g++gn C)) b) [] m2)) ?_ ?_ ?_ ?_
 ·lcg_off;refine Ok.Oc hd ?_;lcg_off;have x1:=Ext.new m (.list [.int g]);exact⟨_,rfl,⟨_,rfl⟩,x0.trans x1,bc _ _,fun O=>⟨S.keep x1,(x1.ob _ C8).trans hd,dU _,gA _,x1.n⟩,by omega⟩
 ·intro lo k fr m2 IQ;refine az fun zG=> ?_;obtain⟨_,_,h,_⟩:=IQ;refine zG ?_;exact h
 ·intro lo k u fr m2 e gQ J hj;refine az fun zG=> ?_;obtain⟨⟨z,rfl⟩,x2,px,h2,_⟩:=gQ;refine zG ?_;obtain⟨rfl,rfl⟩:=D5 e;refine az fun zG=> ?_;obtain⟨S2,hd2,qS,Gy,D7⟩:=h2 rfl;refine zG ?_;lcg_off;refine Ok.Tp hd2 vf ?_;lcg_off;refine(wZ (hc.keep (.of x2)) hC hg).q1 ?_;intro m3 x3;have S3:=S2.keep x3;lcg_off;refine(AD (W:= []) (x2.trans x3) h0 hs S3 hb Lh (by simp)).k2 ?_;rintro _ m4 ⟨w4,S4⟩ x4;have wY:=x3.n;have hd4:=(x4.ob _ (by exact abB C8 qS Gy wY) hdi hdo hdw).trans ((x3.ob _ (by exact Hf C8 D7)).trans hd2);have UD:=(x4.ob _ (by exact Hf Gy wY) (by exact TX hL qS) (by exact TY hL qS) (by exact TZ hL qS)).trans ((x3.ob _ Gy).trans px);refine az fun zG=> ?_;obtain⟨a4,q4,_,_,l4⟩:=id S4;refine zG ?_;lcg_off;refine Ok.Tp hd4 vf ?_;lcg_off;refine(AA S4 hb (fun p hp=> ?_)).mono ?_
  ·rw [List.nil_append] at hp;rcases List.mem_append.mp hp with h|h
   ·exact AE hP (by decide) p h
   ·exact AE hP (by decide) p h
  intro _ m5 fN;refine az fun zG=> ?_;obtain⟨⟨oq,D8,S5⟩,x5⟩:=fN;refine zG ?_;lcg_off;have wU:=x4.n;have e5:=((x2.trans x3).only h0 x4).only h0 x5;rw [List.nil_append,VG hb hP] at S5;refine⟨⟨_,rfl⟩,e5,(x5.ob _ (by exact RJ Gy wY wU) (by exact TX hL qS) (by exact TY hL qS) (by exact TZ hL qS)).trans UD,by omega,fun O=>⟨oq,w4,by have:=x0.n;exact abC h0 hL qS Gy wY D8 wU,S5⟩⟩
 ·intro lo fr m2 mM;refine az fun zG=> ?_;obtain⟨⟨z,rfl⟩,x2,px,_,h3⟩:=mM;refine zG ?_;lcg_off;exact⟨h3 rfl,x2⟩
end
end
section
variable {α:Type}{n:Nat}{L R S:List UInt8}
theorem D9(a b:List α)(d:α)(n:Nat)(h:n<a.length):(a++b).getD n d=a.getD n d:=by
 rw [pj,pj,List.getElem?_append_left h]
theorem JZ(a b:List α)(d:α)(n:Nat)(h:a.length<=n):(a++b).getD n d=b.getD (n-a.length) d:=by
 rw [pj,pj,List.getElem?_append_right h]
theorem ot(a:UInt8)(l:List UInt8):s1 (a::l)=a.toNat+s1 l:=by unfold s1;simp
theorem lN(a b:List UInt8):s1 (a++b)=s1 a+s1 b:=by unfold s1;simp
theorem IV(a:List UInt8):0<=s1 a:=by
 induction a with
 |nil=>exact Int.le_refl _
 |cons x r ih=>rw [ot];exact abN ih
theorem Od(a:List UInt8):s1 a<=255*a.length:=by
 induction a with
 |nil=>exact Int.le_refl _
 |cons x r ih=>
  rw [ot,oK];have:=x.toNat_lt
  push_cast
  exact abO ih this
theorem Oe(k:Nat):s1 (List.replicate k 0)=0:=by
 induction k with
 |zero=>rfl
 |succ k ih=>rw [List.replicate_succ,ot,ih];rfl
theorem J0:∀(l:List UInt8) (i:Nat) (v:UInt8),i<l.length->s1 (l.set i v)+(l.getD i 0).toNat=s1 l+v.toNat
 | [],_,_,h=>by simp at h
 |a::r,0,v,h=>by rw [List.set_cons_zero,ot,ot,List.getD_cons_zero];exact abP
 |a::r,i+1,v,h=>by
  rw [List.set_cons_succ,ot,ot,List.getD_cons_succ];have:=J0 r i v (by simpa using h);exact abQ this
theorem Gz{A B:List UInt8}(hA:A.length<=1000)(hB:B.length<=1000)(h:s1 A≠s1 B):mq A≠mq B:=fun e=>by
 unfold mq at e;have e1:=congrArg (List.take 4) e;rw [List.take_left' (aw _ _),List.take_left' (aw _ _)] at e1;have a1:=IV A;have a2:=Od A;have b1:=IV B;have b2:=Od B;have r1:=eO (1+s1 A) (k:=4294967296) (by decide);have r2:=eO (1+s1 B) (k:=4294967296) (by decide);have e2:=congrArg numOf e1;rw [fz r1.1 (by exact L2 r1),fz r2.1 (by exact L2 r2),Int.fmod_eq_emod_of_nonneg _ (bR rfl),Int.fmod_eq_emod_of_nonneg _ (bR rfl)] at e2;exact abR hA hB h a1 a2 b1 b2 e2
theorem IW{a b:UInt8}(h:a≠b):a.toNat≠b.toNat:=fun e=>h (UInt8.toNat_inj.mp e)
theorem QO(h:n<256):bP 4 (n:Int)= [n.toUInt8,0,0,0]:=by
 have e:∀p,1<=p->p<4->(((n:Int).fdiv (2 ^ (8*p))).fmod 256).toNat.toUInt8=0:=fun p h1 h4=>by
  have:(n:Int).fdiv (2 ^ (8*p))=0:=by
   rw [Int.fdiv_eq_ediv_of_nonneg _ (Int.le_of_lt (Int.pow_pos (bR rfl)))];refine Int.ediv_eq_zero_of_lt (by exact O2) ?_;have h8:p=1\/p=2\/p=3:=by exact abS h1 h4
   rcases h8 with rfl|rfl|rfl <;> omega
  rw [this];rfl
 have e0:(((n:Int).fdiv (2 ^ (8*0))).fmod 256).toNat.toUInt8=n.toUInt8:=by
  have h1:(n:Int).fdiv (2 ^ (8*0))=n:=by
   exact Int.fdiv_one _
  rw [h1,Int.fmod_eq_emod_of_nonneg _ (bR rfl),Int.emod_eq_of_lt (by exact O2) (by exact RX h),l9]
 show [(((n:Int).fdiv (2 ^ (8*0))).fmod 256).toNat.toUInt8,(((n:Int).fdiv (2 ^ (8*1))).fmod 256).toNat.toUInt8,(((n:Int).fdiv (2 ^ (8*2))).fmod 256).toNat.toUInt8,(((n:Int).fdiv (2 ^ (8*3))).fmod 256).toNat.toUInt8]=_;rw [e 1 (bR rfl) (bR rfl),e 2 (bR rfl) (bR rfl),e 3 (bR rfl) (bR rfl),e0]
theorem toU8_nat(h:n<256):n.toUInt8.toNat=n:=(UInt8.toNat_ofNat' (n:=n)).trans (Nat.mod_eq_of_lt h)
section
variable {X:List UInt8}
theorem ql{Y Z:List UInt8}(hS:S.length=8)(hL:L.length=4)(hn:numOf L=(n:Int))(h:12+n<=160):
  ib (S++(L++R))=if mq (L++R.take n)=S then .bytes (R.take n) else .none:=by
 have d8:(S++(L++R)).drop 8=L++R:=List.drop_left' hS;have t4:((S++(L++R)).drop 8).take 4=L:=by rw [d8];exact List.take_left' hL
 have hl:ia (S++(L++R))=n:=by unfold ia;rw [t4,hn];exact l9 n
 have t8:(S++(L++R)).take 8=S:=List.take_left' hS;have d12:(S++(L++R)).drop 12=R:=by rw [show 12=8+4 from rfl, <- List.drop_drop,d8];exact List.drop_left' hL
 have tn:((S++(L++R)).drop 8).take (4+n)=L++R.take n:=by
  rw [d8, <- hL,List.take_length_add_append]
 unfold ib;rw [hl,tn,t8,d12]
 by_cases q:mq (L++R.take n)=S
 ·rw [if_pos ⟨h,q⟩,if_pos q]
 ·rw [if_neg fun z=>q z.2,if_neg q]
theorem AF(hS:S.length=8)(hL:L.length=4)(hn:148<numOf L):ib (S++(L++R))= .none:=by
 have d8:(S++(L++R)).drop 8=L++R:=List.drop_left' hS;have t4:((S++(L++R)).drop 8).take 4=L:=by rw [d8];exact List.take_left' hL
 have hl:148<ia (S++(L++R)):=by unfold ia;rw [t4];exact abT hn
 exact if_neg fun z=>by omega
theorem Cj(X:List UInt8):eV X=mq (bP 4 X.length++X)++(bP 4 X.length++(X++List.replicate (160-(12+X.length)) 0)):=by
 unfold eV sO;simp only [List.append_assoc]
theorem sP(hX:X.length<=148):ib (eV X)= .bytes X:=by
 rw [Cj,ql (n:=X.length) (Y:= []) (Z:= []) (nK _) (aw _ _) (fz (by exact O2) (by exact TS hX)) (by exact T7 hX),List.take_left' rfl,if_pos rfl]
theorem GA(hX:X.length<=148){a:Nat}{v:UInt8}(ha:a<160)(hv:v≠(eV X).getD a 0):ib ((eV X).set a v)=if a<12+X.length then .none else .bytes X:=by
 have hS:=nK (bP 4 X.length++X);have hL:=aw X.length 4;have hN:numOf (bP 4 X.length)=(X.length:Int):=fz (by exact O2) (by exact TS hX);rw [Cj] at hv ⊢
 by_cases h8:a<8
 ·rw [List.set_append_left _ _ (by exact T8 hS h8),if_pos (by exact abU h8),ql (n:=X.length) (Y:= []) (Z:= []) (by rw [List.length_set];exact hS) hL hN (by exact T7 hX),List.take_left' rfl,if_neg];intro e;rw [D9 _ _ _ _ (by exact T8 hS h8)] at hv;have:=congrArg (fun l=>l.getD a 0) e;simp only [List.getD_eq_getElem?_getD,List.getElem?_set_self (show a<(mq (bP 4 X.length++X)).length by exact T8 hS h8),Option.getD_some] at this;exact hv (by rw [<- this,pj])
 rw [List.set_append_right _ _ (by exact R2 hS h8),hS];have Li:v≠(bP 4 X.length++(X++List.replicate (160-(12+X.length)) 0)).getD (a-8) 0:=by
  rw [JZ _ _ _ _ (by exact R2 hS h8),hS] at hv;exact hv
 by_cases BE:a<12
 ·rw [List.set_append_left _ _ (by exact R3 hL BE),if_pos (by exact abV BE)];rw [D9 _ _ _ _ (by exact R3 hL BE)] at Li;have QP:=QO (n:=X.length) (by exact R4 hX);rw [QP] at Li;have hx:X.length.toUInt8.toNat=X.length:=toU8_nat (by exact R4 hX);have QL:=v.toNat_lt
  by_cases h0:a=8
  ·subst h0;have QQ:v.toNat≠X.length:=by
    have:=IW Li;rw [show([X.length.toUInt8,0,0,0].getD (8-8) 0)=X.length.toUInt8 from rfl,hx] at this;exact this
   have hL':(bP 4 X.length).set (8-8) v= [v,0,0,0]:=by rw [QP];rfl
   rw [hL'];have wd:numOf [v,0,0,0]=(v.toNat:Int):=by rw [qR];simp
   by_cases hf:148<v.toNat
   ·exact AF hS rfl (by rw [wd];exact abW hf)
   ·rw [ql (n:=v.toNat) (Y:= []) (Z:= []) hS rfl wd (by exact abX hf),if_neg];refine Gz ?_ ?_ ?_
    ·rw [ir,ig,ir,List.length_replicate,oK,oK,oK,oK,List.length_nil];exact abY hX QL hf
    ·rw [ir,hL];exact Pr hX
    rw [lN,lN,QP];have q1:s1 [v,0,0,0]=v.toNat:=by simp [s1]
    have q2:s1 [X.length.toUInt8,0,0,0]=X.length:=by
     have:s1 [X.length.toUInt8,0,0,0]=X.length.toUInt8.toNat:=by simp [s1]
     rw [this,hx]
    rw [q1,q2]
    by_cases ke:v.toNat<X.length
    ·rw [List.take_append_of_le_length (by exact TU ke)];have:=lN (X.take v.toNat) (X.drop v.toNat);rw [List.take_append_drop] at this;have:=IV (X.drop v.toNat);exact abZ ke (by assumption) this
    ·rw [List.take_append,qV (by exact T9 ke),lN,List.take_replicate,Oe];exact ab0 QQ
  ·refine AF hS (by rw [List.length_set];exact hL) ?_;rw [QP];have hc:a=9\/a=10\/a=11:=by exact ab1 ha h8 BE h0
   have hv0:v≠0:=by rcases hc with rfl|rfl|rfl <;> exact Li
   have VH:v.toNat≠0:=IW hv0;rcases hc with rfl|rfl|rfl
   ·show 148<numOf [_,v,0,0];rw [qR];simp only [UInt8.toNat_zero];exact ab2 VH h0
   ·show 148<numOf [_,0,v,0];rw [qR];simp only [UInt8.toNat_zero];exact ab3 VH h0
   ·show 148<numOf [_,0,0,v];rw [qR];simp only [UInt8.toNat_zero];exact ab4 VH h0
 rw [List.set_append_right _ _ (by exact R5 hL h8 BE),hL];have QQ:v≠(X++List.replicate (160-(12+X.length)) 0).getD (a-8-4) 0:=by
  rw [JZ _ _ _ _ (by exact R5 hL h8 BE),hL] at Li;exact Li
 rw [ql (n:=X.length) (Y:= []) (Z:= []) hS hL hN (by exact T7 hX)]
 by_cases hx:a<12+X.length
 ·rw [if_pos hx,List.set_append_left _ _ (by exact T_ h8 BE hx),List.take_left' (by rw [List.length_set]),if_neg];rw [D9 _ _ _ _ (by exact T_ h8 BE hx)] at QQ;refine Gz (by rw [ir,hL,List.length_set];exact Pr hX) (by rw [ir,hL];exact Pr hX) ?_;rw [lN,lN];have:=J0 X (a-8-4) v (by exact T_ h8 BE hx);have:=IW QQ;exact ab5 (by assumption) this
 ·rw [if_neg hx,List.set_append_right _ _ (by exact ab6 h8 BE hx),List.take_left' rfl,if_pos rfl]
end
end
section
noncomputable def fy(b:List UInt8)(p st:Nat):List UInt8:=b.set p (((b.getD p 0).toNat+st) % 256).toUInt8
noncomputable def front(b:List UInt8):List UInt8:=b.take 160
noncomputable def back(b:List UInt8):List UInt8:=(b.drop 208).take 160
theorem Lj(b:List UInt8):tell b true= .none:=rfl
theorem sQ(b:List UInt8):tell b false=match ib (front b) with
 | .none=>ib (back b)
 |v=>v:=rfl
section
variable {b P:List UInt8}{p st a:Nat}
theorem kn:(fy b p st).length=b.length:=List.length_set
theorem Of(h:1<=st/\st<=255):(((b.getD p 0).toNat+st) % 256).toUInt8≠b.getD p 0:=fun e=>by
 have e2:=congrArg UInt8.toNat e;rw [toU8_nat (Nat.mod_lt _ (bR rfl))] at e2;have:=(b.getD p 0).toNat_lt;exact acg h e2
theorem vX{X:List UInt8}(hX:X.length<=148)(ha:a<160)(h:1<=st/\st<=255):ib (fy (eV X) a st)=if a<12+X.length then .none else .bytes X:=GA hX ha (Of h)
theorem GB(h:a<160):front (fy b a st)=fy (front b) a st:=by
 delta front fy;rw [List.take_set]
 congr 4
 simp only [List.getD_eq_getElem?_getD,List.getElem?_take];rw [if_pos h]
theorem GC(h:160<=p):front (fy b p st)=front b:=by
 delta front fy;rw [List.take_set,List.set_eq_of_length_le (by rw [ig];exact ach h)]
theorem J1(h:p<208):back (fy b p st)=back b:=by
 delta back fy;rw [List.drop_set,if_pos h]
theorem QR(h:a<160):back (fy b (208+a) st)=fy (back b) a st:=by
 delta back fy;rw [List.drop_set,if_neg (by exact aci),Nat.add_sub_cancel_left,List.take_set]
 congr 4
 simp only [List.getD_eq_getElem?_getD,List.getElem?_take,List.getElem?_drop];rw [if_pos h]
noncomputable def mO:List UInt8:=List.replicate 384 0
theorem vY:mO.length=384:=rfl
theorem Og(hP:P.length=160):(iY P mO).length=384:=by
 unfold iY;simp only [List.length_append,List.length_take,List.length_drop,vY];exact acj hP
theorem qT(hP:P.length=160):front (iY P mO)=P:=by
 delta front iY;rw [List.append_assoc,List.take_append_of_le_length (by rw [ig,ir,oJ,vY];exact ack hP),List.take_take,List.take_append_of_le_length (by exact acm hP),qV (by exact acn hP)]
theorem Ck(hP:P.length=160):back (iY P mO)=P:=by
 delta back iY;have h1:((P++mO.drop 160).take 208).length=208:=by rw [ig,ir,oJ,vY];exact aco hP
 rw [List.append_assoc,List.drop_left' h1];exact List.take_left' hP
theorem Lk:tell mO false= .none:=by
 have h:ib (List.replicate 160 0)= .none:=by
  have e:List.replicate 160 (0:UInt8)=List.replicate 8 0++([0,0,0,0]++List.replicate 148 0):=by
   rw [show [(0:UInt8),0,0,0]=List.replicate 4 0 from rfl,List.replicate_append_replicate,List.replicate_append_replicate]
  rw [e,ql (n:=0) (Y:= []) (Z:= []) rfl rfl (by rw [qR];rfl) (by decide),if_neg];intro q;have q2:=congrArg (List.take 4) q;unfold mq at q2;rw [List.take_left' (aw _ _),List.take_zero,List.append_nil] at q2;have q3:=congrArg numOf q2;have r1:=eO (1+s1 [0,0,0,0]) (k:=4294967296) (bR rfl);rw [fz r1.1 (by exact L2 r1),show(List.replicate 8 (0:UInt8)).take 4= [0,0,0,0] from rfl,qR,show s1 [0,0,0,0]=0 from rfl] at q3;exact absurd q3 (by decide)
 have f:front mO=List.replicate 160 0:=by unfold front mO;rw [List.take_replicate];rfl
 have g:back mO=List.replicate 160 0:=by unfold back mO;rw [List.drop_replicate,List.take_replicate];rfl
 rw [sQ,f,g,h]
variable {X:List UInt8}
theorem Cm(hX:X.length<=148):tell (iY (eV X) mO) false= .bytes X:=by
 rw [sQ,qT (iA hX),sP hX]
theorem QS(hX:X.length<=148)(ha:a<160)(h:1<=st/\st<=255):tell (fy (iY (eV X) mO) a st) false= .bytes X:=by
 rw [sQ,GB ha,qT (iA hX),J1 (by exact R9 ha),Ck (iA hX),vX hX ha h,sP hX]
 by_cases q:a<12+X.length
 ·rw [if_pos q]
 ·rw [if_neg q]
theorem QT(hX:X.length<=148)(ha:a<160)(h:1<=st/\st<=255):tell (fy (iY (eV X) mO) (208+a) st) false= .bytes X:=by
 rw [sQ,GC (by exact R_),qT (iA hX),sP hX]
theorem Oh(hX:X.length<=148)(ha:a<160)(h:1<=st/\st<=255):tell (fy (fy (iY (eV X) mO) a st) (208+a) st) false=if a<12+X.length then .none else .bytes X:=by
 rw [sQ,GC (by exact R_),GB ha,QR ha,J1 (by exact R9 ha),qT (iA hX),Ck (iA hX),vX hX ha h]
 by_cases q:a<12+X.length
 ·rw [if_pos q]
 ·rw [if_neg q]
end
end
section
variable {k:Int}
section
variable {Q:MV->MH->Prop}{QB:Bool->MH->Prop}{m m0 m':MH}{i jo jw sh:Nat}{b:List UInt8}{ws:List MV}{out:Bool}{r w:Int}
theorem nu{bg at' st:Nat}(S:dD out w r i jo jw b ws m)(hb:b.length=384)(h:bg*16+at'<384)(hs:st<=255):
  Ok (nq.1 [.obj i,.int bg,.int at',.int st] m) fun O m'=>m'=m.set jo (.ba (fy b (bg*16+at') st)):=by
 refine az fun zG=> ?_;obtain⟨a,q,o,u,l⟩:=id S;refine zG ?_;have e0:((bg:Int)*16+(at':Int)).toNat=bg*16+at':=by exact Rr
 have ep:((bg:Int)*16+(at':Int))=((bg*16+at':Nat):Int):=by exact Yp
 have e1:((bg:Int)*16+(at':Int)).fdiv 16=(((bg*16+at')/16:Nat):Int):=by
  rw [ep,Int.fdiv_eq_ediv_of_nonneg _ (by decide)];exact Yq
 have e2:((bg:Int)*16+(at':Int)).fmod 16=(((bg*16+at') % 16:Nat):Int):=by
  rw [ep,Int.fmod_eq_emod_of_nonneg _ (by decide)];exact Yr
 dsimp only [nq];refine Ok.cps fun Q hq=> ?_;refine Ok.dc (eN rfl) (by keq_hits) ?_;lcg_off;refine Ok.aex o (by exact Ys hb h e0 e2) ?_;rw [e0];lcg_off;have e3:((((b.getD (bg*16+at') 0).toNat:Int)+(st:Int)).fmod 256)=((((b.getD (bg*16+at') 0).toNat+st) % 256:Nat):Int):=by
  rw [Int.fmod_eq_emod_of_nonneg _ (bR rfl)];exact Yt
 rw [e1,e2,e3];refine(BC S hb (by exact Yu h e0 e2) (by exact Yv e0 e2) (by exact Yw e3)).mono ?_;rintro v m1 rfl;lcg_off;rw [show(bg*16+at')/16*16+(bg*16+at') % 16=bg*16+at' by exact Yx];rfl
theorem Ok.int{xs:List MV}{ns:List Int}(b:Bool)(e:intsOf xs=some ns)(f:ns.any (· ==k)=b)(q:QB b m):Ok (FD (.int k) (.tup xs) m) QB:= .of (aV ((aV e).trans (congrArg some f))) q
theorem Ok.QV{l:Nat}{x:MV}(o:m.ob l= .list [.tup [.int k,x]])(q:Q (.obj m.n) (m.new (.dict [(k,x)]))):Ok (FV (.obj l) m) Q:= .of ((cC o).trans rfl) q
def yM(m:MH)(d:Nat)(b:List UInt8)(out:Bool):Prop:=∃jo jw r w,dD out w r d jo jw b [] m
noncomputable def l8:Option (Int×Nat)->MV
 |none=> .none
 |some (g,k)=> .tup [.int g,.int (k:Int)]
noncomputable def AG(Cs:Nat->ea):Option (Int×Nat)->MV
 |none=> .none
 |some (g,k)=> .bytes (bP 4 g++gn (Cs k))
def D_(tl:Option (Int×Nat)):Prop:=∀g k,tl=some (g,k)->(10<=g/\g<=15)/\k<3
def mP(Cs:Nat->ea)(m:MH)(d:Nat)(tl:Option (Int×Nat)):Prop:=(∃b out,yM m d b out/\b.length=384/\tell b out=AG Cs tl)/\D_ tl
set_option maxHeartbeats 1000000 in
theorem Ea{cs:Nat}{cl:List MV}{Cs:Nat->ea}(hs:c9 m sh)(ho:m.ob cs= .list cl)(fZ:cl.length=3)(Fv:cs<m.n)(hC:∀k v,cl[k]? =some v->eZ m v (Cs k))(hR:∀k,k<3->ConfOK (Cs k)/\4+(gn (Cs k)).length<=148)(x:Int):
  Ok (qJ.1 [.obj sh,.obj cs,.int x] m) fun v m'=>∃d tl,v= .tup [.obj d,l8 tl]/\m.n<=d/\Ext m m'/\mP Cs m' d tl:=by
 have f1:=eO x (k:=4) (bR rfl);have f2:=eO (x.fdiv 4) (k:=6) (bR rfl);dsimp only [qJ];refine Ok.cps fun Q hq=> ?_;refine Ok.dc (eN rfl) (by keq_hits) ?_;lcg_off;refine(IP hs).q2 ?_;intro m1 S1 x1;have hL1:=S1.l;lcg_off
 by_cases h3:x.fmod 4=3
 ·lcg_off;refine⟨m.n,none,rfl,dU _,x1,⟨mO,false,⟨_,_,_,_,S1⟩,vY,Lk⟩,fun g k h=>by cases h⟩
 lcg_off;obtain⟨kk,Qy⟩:∃kk:Nat,x.fmod 4=kk:=⟨(x.fmod 4).toNat,by exact Yy f1⟩;have DP:kk<3:=by exact Yz f1 h3 Qy
 obtain⟨cv,Oi⟩:∃cv,cl[kk]? =some cv:=⟨_,iq (by exact YA fZ DP)⟩;have C0:=hC _ _ Oi;obtain⟨Tq,IX⟩:=hR _ DP;rw [Qy];refine Ok.qg ((x1.ob _ Fv).trans ho) (by exact Cx DP) (by rw [l9];exact Oi) ?_;lcg_off;refine Ok.QV (bc _ _) ?_;generalize rF:m1.new (.list _)=m2;have x2:Ext m1 m2:=by rw [<- rF];exact .new _ _
 have x3:=Ext.new m2 (.dict [(10+(x.fdiv 4).fmod 6,.obj m.n)]);have o3:=bc m2 (.dict [(10+(x.fdiv 4).fmod 6,.obj m.n)]);have l3:m2.n<(m2.new (.dict [(10+(x.fdiv 4).fmod 6,.obj m.n)])).n:=gA _;generalize m2.new (.dict [(10+(x.fdiv 4).fmod 6,.obj m.n)])=m3 at x3 o3 l3;have S3:=(S1.keep x2).keep x3;have hg:Av (10+(x.fdiv 4).fmod 6):=by unfold Av;exact YB f2
 have GD:D_ (some (10+(x.fdiv 4).fmod 6,kk)):=fun g k h=>by
  injection h with h;injection h with h1 h2;subst h1;subst h2;exact YC f2 DP
 lcg_off;refine(w5 ((x1.trans x2).trans x3) ⟨dU _,by exact EC,by exact YD⟩ hs C0 Tq hg IX S3 rfl o3 l3).k2 ?_;intro v4 m4 fN x4;refine az fun zG=> ?_;obtain⟨oq,w4,D8,S4⟩:=fN;refine zG ?_;lcg_off;refine(pe (C0.keep (.of x4)) Tq).q1 ?_;intro m5 x5;lcg_off;refine Ok.xE (by exact YE IX) ?_;lcg_off;have f5:=eO (x.fdiv 24) (k:=5) (bR rfl);have f6:=eO ((x.fdiv 24).fdiv 5) (k:=160) (bR rfl);have f7:=eO ((x.fdiv 24).fdiv 800) (k:=255) (bR rfl);obtain⟨at',yl⟩:∃at':Nat,((x.fdiv 24).fdiv 5).fmod 160=at':=⟨(((x.fdiv 24).fdiv 5).fmod 160).toNat,by exact YF f6⟩;obtain⟨vZ,rD⟩:∃vZ:Nat,1+((x.fdiv 24).fdiv 800).fmod 255=vZ:=⟨(1+((x.fdiv 24).fdiv 800).fmod 255).toNat,by exact YG f7⟩;have Oj:at'<160:=by exact YH f6 yl
 have p_:1<=vZ/\vZ<=255:=by exact YI f7 rD
 rw [yl,rD];generalize hX:bP 4 (10+(x.fdiv 4).fmod 6)++gn (Cs kk)=X at S4;have Lh:X.length=4+(gn (Cs kk)).length:=by rw [<- hX,ir,aw]
 have w6:X.length<=148:=by exact YJ IX Lh
 have hP:=iA w6;have S5:=S4.keep x5;have AH:(iY (eV X) mO).length=384:=Og hP;change dD false w4 0 m.n (m.n+2) oq (iY (eV X) mO) [] m5 at S5;have E5:=x4.trans x5;have hB:AG Cs (some (10+(x.fdiv 4).fmod 6,kk))= .bytes X:=by rw [<- hX];rfl
 have h5:(x.fdiv 24).fmod 5=0\/(x.fdiv 24).fmod 5=1\/(x.fdiv 24).fmod 5=2\/(x.fdiv 24).fmod 5=3\/(x.fdiv 24).fmod 5=4:=by exact YK f5
 rcases h5 with v3|v3|v3|v3|v3
 ·lcg_off;refine Ok.int false rfl (by rw [v3];decide) ?_;lcg_off;refine Ok.int false rfl (by rw [v3];decide) ?_;refine az fun zG=> ?_;obtain⟨a6,q6,_,_,l6⟩:=id S5;refine zG ?_;lcg_off;refine Ok.gq a6 q6 (by decide) (by exact Ke l6) (iZ rfl) rfl fun m9 a9 r9 n9 o9=> ?_;lcg_off;have S9:=S5.xI n9 o9 r9;have E9:=(ew.refl (i:=m.n) (jo:=m.n+2) (jw:=oq) m5).trans (ew.Gv (jo:=m.n+2) (jw:=oq) n9 o9);refine⟨m.n,some (10+(x.fdiv 4).fmod 6,kk),rfl,dU _,E5.only ⟨dU _,by exact EC,D8⟩ E9,⟨_,_,⟨_,_,_,_,S9⟩,AH, ?_⟩,GD⟩;rw [hB];exact Cm w6
 ·lcg_off;refine Ok.int true rfl (by rw [v3];decide) ?_;lcg_off;refine(nu (bg:=0) S5 AH (by exact Rt f6 yl) p_.2).mono ?_;rintro _ m6 rfl;have S6:=S5.sN (fy (iY (eV X) mO) (0*16+at') vZ);rw [show 0*16+at'=at' by exact Ru] at S6 ⊢;lcg_off;refine Ok.int false rfl (by rw [v3];decide) ?_;refine az fun zG=> ?_;obtain⟨a6,q6,_,_,l6⟩:=id S6;refine zG ?_;lcg_off;refine Ok.gq a6 q6 (by decide) (by exact Ke l6) (iZ rfl) rfl fun m9 a9 r9 n9 o9=> ?_;lcg_off;have S9:=S6.xI n9 o9 r9;have E9:=(ew.sN (i:=m.n) (jo:=m.n+2) (jw:=oq) m5 (.ba (fy (iY (eV X) mO) at' vZ))).trans (ew.Gv (jo:=m.n+2) (jw:=oq) n9 o9);refine⟨m.n,some (10+(x.fdiv 4).fmod 6,kk),rfl,dU _,E5.only ⟨dU _,by exact EC,D8⟩ E9,⟨_,_,⟨_,_,_,_,S9⟩,kn.trans AH, ?_⟩,GD⟩;rw [hB];exact QS w6 Oj p_
 ·lcg_off;refine Ok.int false rfl (by rw [v3];decide) ?_;lcg_off;refine Ok.int true rfl (by rw [v3];decide) ?_;lcg_off;refine(nu (bg:=13) S5 AH (by exact Rv f6 yl) p_.2).mono ?_;rintro _ m6 rfl;have S6:=S5.sN (fy (iY (eV X) mO) (13*16+at') vZ);rw [show 13*16+at'=208+at' by exact Rw] at S6 ⊢;lcg_off;refine az fun zG=> ?_;obtain⟨a6,q6,_,_,l6⟩:=id S6;refine zG ?_;lcg_off;refine Ok.gq a6 q6 (by decide) (by exact Ke l6) (iZ rfl) rfl fun m9 a9 r9 n9 o9=> ?_;lcg_off;have S9:=S6.xI n9 o9 r9;have E9:=(ew.sN (i:=m.n) (jo:=m.n+2) (jw:=oq) m5 (.ba (fy (iY (eV X) mO) (208+at') vZ))).trans (ew.Gv (jo:=m.n+2) (jw:=oq) n9 o9);refine⟨m.n,some (10+(x.fdiv 4).fmod 6,kk),rfl,dU _,E5.only ⟨dU _,by exact EC,D8⟩ E9,⟨_,_,⟨_,_,_,_,S9⟩,kn.trans AH, ?_⟩,GD⟩;rw [hB];exact QT w6 Oj p_
 ·lcg_off;refine Ok.int true rfl (by rw [v3];decide) ?_;lcg_off;refine(nu (bg:=0) S5 AH (by exact Rt f6 yl) p_.2).mono ?_;rintro _ m6 rfl;have S6:=S5.sN (fy (iY (eV X) mO) (0*16+at') vZ);have E6:=ew.sN (i:=m.n) (jo:=m.n+2) (jw:=oq) m5 (.ba (fy (iY (eV X) mO) (0*16+at') vZ));rw [show 0*16+at'=at' by exact Ru] at S6 E6 ⊢;generalize m5.set (m.n+2) _=m6 at S6 E6;lcg_off;refine Ok.int true rfl (by rw [v3];decide) ?_;lcg_off;refine(nu (bg:=13) S6 (kn.trans AH) (by exact Rv f6 yl) p_.2).mono ?_;rintro _ m7 rfl;have S7:=S6.sN (fy (fy (iY (eV X) mO) at' vZ) (13*16+at') vZ);have E7:=E6.trans (ew.sN (i:=m.n) (jo:=m.n+2) (jw:=oq) m6 (.ba (fy (fy (iY (eV X) mO) at' vZ) (13*16+at') vZ)));rw [show 13*16+at'=208+at' by exact Rw] at S7 E7 ⊢;generalize m6.set (m.n+2) _=m7 at S7 E7;have ht:=Oh w6 Oj p_;refine az fun zG=> ?_;obtain⟨a6,q6,_,_,l6⟩:=id S7;refine zG ?_;lcg_off;refine Ok.gq a6 q6 (by decide) (by exact Ke l6) (iZ rfl) rfl fun m9 a9 r9 n9 o9=> ?_;have S9:=S7.xI n9 o9 r9;have E9:=E7.trans (ew.Gv (jo:=m.n+2) (jw:=oq) n9 o9)
  by_cases Ts:(at':Int)<16+((gn (Cs kk)).length:Int)
  ·lcg_off;refine⟨m.n,none,rfl,dU _,E5.only ⟨dU _,by exact EC,D8⟩ E9,⟨_,_,⟨_,_,_,_,S9⟩,kn.trans (kn.trans AH), ?_⟩,fun g k h=>by cases h⟩;exact ht.trans (if_pos (by exact YL Lh Ts))
  ·lcg_off;refine⟨m.n,some (10+(x.fdiv 4).fmod 6,kk),rfl,dU _,E5.only ⟨dU _,by exact EC,D8⟩ E9,⟨_,_,⟨_,_,_,_,S9⟩,kn.trans (kn.trans AH), ?_⟩,GD⟩;rw [hB];exact ht.trans (if_neg (by exact YM Lh Ts))
 ·lcg_off;refine Ok.int false rfl (by rw [v3];decide) ?_;lcg_off;refine Ok.int false rfl (by rw [v3];decide) ?_;refine az fun zG=> ?_;obtain⟨a6,q6,_,_,l6⟩:=id S5;refine zG ?_
  by_cases ajN:((x.fdiv 24).fdiv 5).fmod 2=0
  ·lcg_off;refine Ok.gq a6 q6 (by decide) (by exact Ke l6) (iZ rfl) rfl fun m9 a9 r9 n9 o9=> ?_;have S9:=S5.xI n9 o9 r9;have E9:=(ew.Gv (i:=m.n) (jo:=m.n+2) (jw:=oq) n9 o9);lcg_off;refine⟨m.n,none,rfl,dU _,E5.only ⟨dU _,by exact EC,D8⟩ E9,⟨_,_,⟨_,_,_,_,S9⟩,AH,Lj _⟩,fun g k h=>by cases h⟩
  ·lcg_off;refine Ok.gq a6 q6 (by decide) (by exact Ke l6) (iZ rfl) rfl fun m9 a9 r9 n9 o9=> ?_;have S9:=S5.xI n9 o9 r9;have E9:=(ew.Gv (i:=m.n) (jo:=m.n+2) (jw:=oq) n9 o9);lcg_off;refine⟨m.n,some (10+(x.fdiv 4).fmod 6,kk),rfl,dU _,E5.only ⟨dU _,by exact EC,D8⟩ E9,⟨_,_,⟨_,_,_,_,S9⟩,AH, ?_⟩,GD⟩;rw [hB];exact Cm w6
end
end
section
variable {d:Nat}{Cs:Nat->ea}{tl:Option (Int×Nat)}
structure Ev (m m':MH):Prop where
 n:m.n<=m'.n
 ob:∀t,t<m.n->(∀fs,m.ob t≠ .dP fs)->m'.ob t=m.ob t
 rc:∀i C,i+1<m.n->m.ob i= .inst C->C≠526->m'.ob (i+1)=m.ob (i+1)
 dk:∀ {d jo jw b out},(∃r w,dD out w r d jo jw b [] m)->∃r w,dD out w r d jo jw b [] m'
section
variable {m m':MH}{i jo jw sh:Nat}{b:List UInt8}{ws:List MV}{out:Bool}{r w:Int}
theorem Ev.refl(m:MH):Ev m m:=⟨dU _,fun O O O=>rfl,fun O O O O O=>rfl,id⟩
theorem Ev.of(x:Ext m m'):Ev m m':=⟨x.n,fun t h O=>x.ob t h,fun i C h O O=>x.ob _ h,fun⟨r,w,S⟩=>⟨r,w,S.keep x⟩⟩
theorem Ev.trans{a b c:MH}(x:Ev a b)(y:Ev b c):Ev a c where
 n:=jc x.n y.n
 ob:=fun t h q=>(y.ob t (eE h x.n) fun fs=>by rw [x.ob t h q];exact q fs).trans (x.ob t h q)
 rc:=fun i C h a q=>(y.rc i C (eE h x.n) ((x.ob i (by exact O3 h) fun fs e=>by rw [a] at e;cases e).trans a) q).trans (x.rc i C h a q)
 dk:=fun h=>y.dk (x.dk h)
theorem dD.fn{VI VJ:Nat}{b2:List UInt8}{ws2:List MV}{Ol:Bool}{r2 w2:Int}(S:dD out w r i jo jw b ws m)(T:dD Ol w2 r2 i VI VJ b2 ws2 m):b2=b/\Ol=out/\VI=jo/\VJ=jw:=by
 have h:=S.r.symm.trans T.r;simp only [MO.dP.injEq,List.cons.injEq,Prod.mk.injEq,MV.obj.injEq,MV.bool.injEq,MV.int.injEq,true_and,and_true] at h;refine az fun zG=> ?_;obtain⟨h1,h2,h3,h4,h5⟩:=h;refine zG ?_;have o:=S.o.symm.trans (h1▸T.o)
 injection o with o
 exact⟨o.symm,h3.symm,h1.symm,h2.symm⟩
theorem Ev.read{w':Int}(S:dD out w r i jo jw b [] m)(T:∃r',dD out w' r' i jo jw b [] m')(x:fk (i+1) m m'):Ev m m' where
 n:=x.n
 ob:=fun t h q=>x.ob t h fun e=>q _ (e▸S.r)
 rc:=fun j C h a q=>x.ob _ h fun e=>by
  obtain rfl:j=i:=by exact TB e
  rw [S.a] at a;injection a with a;exact q a.symm
 dk:=fun {d VI VJ b2 Ol} ⟨r2,w2,T2⟩=>by
  by_cases hd:d=i
  ·subst hd;refine az fun zG=> ?_;obtain⟨rfl,rfl,rfl,rfl⟩:=S.fn T2;refine zG ?_;obtain⟨r',T⟩:=T;exact⟨_,_,T⟩
  ·have l:=T2.l;refine⟨r2,w2,(x.ob _ (by exact Pj l) fun e=> ?_).trans T2.a,(x.ob _ l.1 (by exact WT hd)).trans T2.r,(x.ob _ l.2.1 fun e=> ?_).trans T2.o,(x.ob _ l.2.2 fun e=> ?_).trans T2.w,eE l.1 x.n,eE l.2.1 x.n,eE l.2.2 x.n⟩
   ·have:=T2.a;rw [e,S.r] at this;cases this
   ·have:=T2.o;rw [e,S.r] at this;cases this
   ·have:=T2.w;rw [e,S.r] at this;cases this
theorem Ev.nk(x:Ev m m'):NK m m':=by
 refine⟨x.n,fun h=> ?_,fun h=> ?_⟩
 all_goals
  refine az fun zG=> ?_;obtain⟨a,r,c,l1,l2⟩:=h;refine zG ?_;refine⟨(x.ob _ (by exact O3 l1) fun fs e=> ?_).trans a,(x.rc _ _ l1 a (bR rfl)).trans r,(x.ob _ l2 fun fs e=> ?_).trans c,eE l1 x.n,eE l2 x.n⟩
  ·rw [a] at e;cases e
  ·rw [c] at e;cases e
theorem c9.yN(h:c9 m sh)(x:Ev m m'):c9 m' sh:=by
 refine az fun zG=> ?_;obtain⟨a,r,l⟩:=h;refine zG ?_;exact⟨(x.ob _ (by exact O3 l) fun fs e=>by rw [a] at e;cases e).trans a,(x.rc _ _ l a (bR rfl)).trans r,eE l x.n⟩
theorem Ev.list{xs:List MV}{o:Nat}(x:Ev m m')(h:m.ob o= .list xs)(hl:o<m.n):m'.ob o= .list xs:=(x.ob o hl fun fs e=>by rw [h] at e;cases e).trans h
theorem yM.ev(h:yM m d b out)(x:Ev m m'):yM m' d b out:=h.imp fun O=>Exists.imp fun O=>x.dk
theorem mP.keep(h:mP Cs m d tl)(x:Ev m m'):mP Cs m' d tl:=by
 refine az fun zG=> ?_;obtain⟨⟨b,out,a,q,e⟩,k⟩:=h;refine zG ?_;exact⟨⟨b,out,a.ev x,q,e⟩,k⟩
noncomputable def Eb(Cs:Nat->ea):Option (Int×Nat)->MV
 |none=> .none
 |some (g,k)=> .tup [.int g,DY (Cs k)]
theorem ConfOK.sz{C:ea}(h:ConfOK C):C.fa.length<=100/\∀T∈C.fa,T.ks.length<=100:=⟨by have:=h.l;exact Hc this,fun T hT=>by have:=(h.t T hT).l;exact Hc this⟩
theorem sR(hs:c9 m sh)(h:mP Cs m d tl):Ok (gx.1 [.obj d,.obj sh] m) fun v m'=>v=AG Cs tl/\Ev m m':=by
 refine az fun zG=> ?_;obtain⟨⟨b,out,⟨jo,jw,r,w,S⟩,hb,e⟩,k⟩:=h;refine zG ?_;refine(yy S hb hs).q2 ?_;intro m1 T x;exact⟨e,.read S T x⟩
theorem Ec(hs:c9 m sh)(h:mP Cs m d tl)(hR:∀k,k<3->uK (Cs k)):Ok (qK.1 [.obj d,.obj sh] m) fun v m'=>v=Eb Cs tl/\Ev m m':=by
 dsimp only [qK];refine Ok.cps fun Q hq=> ?_;refine Ok.dc (eN rfl) (by keq_hits) ?_;lcg_off;refine(sR hs h).q1 ?_;intro m1 x1;cases tl with
 |none=>
  lcg_off;refine Ok.of (a:=true) rfl ?_;lcg_off;exact⟨rfl,x1⟩
 |some q=>
  obtain⟨g,k⟩:=q;obtain⟨hg,hk⟩:=h.2 g k rfl;have hC:=hR k hk;have fZ:=qi hC.toConfOK;lcg_off;refine Ok.of (a:=false) rfl ?_;lcg_off;refine Ok.sG rfl rfl (by rw [ir,aw];exact Hd fZ) ?_;have e1:c8 (bP 4 g++gn (Cs k)) none (some 4)=bP 4 g:=(ux _ 4).trans (List.take_left' (aw _ _));have e2:c8 (bP 4 g++gn (Cs k)) (some 4) none=gn (Cs k):=(zM _ 4).trans (List.drop_left' (aw _ _));rw [e1];have hn:numOf (bP 4 g)=g:=fz (by exact TC hg) (by exact TF hg);lcg_off;refine Ok.ex (iH (by rw [aw];exact O4) (by rw [hn];exact TG hg) _) fun m2 x2=> ?_;rw [hn];lcg_off;refine Ok.sG rfl rfl (by rw [ir,aw];exact Hd fZ) ?_;rw [e2];lcg_off;refine(pT hC).k2 ?_;intro v m3 I3F x3;have I3:=I3F.to;refine az fun zG=> ?_;obtain⟨i,j,xs,rfl,⟨a,r,c,l⟩,F⟩:=id I3;refine zG ?_;lcg_off;refine(jz I3 hC.toConfOK.sz.1 hC.toConfOK.sz.2).q1 ?_;intro m4 x4;lcg_off;exact⟨rfl,x1.trans (.of ((x2.trans x3).trans x4))⟩
end
end
section
variable {Cs:Nat->ea}{m:MH}{r:Nat×Int×Nat}{g k:Int}{L:LD}{x:MV}{es:List (Int×MV)}{d:Nat}
noncomputable abbrev LD:=List (Nat×Option (Int×Nat))
noncomputable def ck(L:LD):List (Nat×Int×Nat):=L.filterMap fun p=>p.2.map fun q=>(p.1,q.1,q.2)
def lO(Cs:Nat->ea)(n:Nat)(m:MH)(v:MV)(r:Nat×Int×Nat):Prop:=∃cv,v= .tup [.int r.2.1,cv,.obj r.1]/\jl n m cv (Cs r.2.2)
theorem lO.keep{n:Nat}{m':MH}{v:MV}(h:lO Cs n m v r)(x:NK m m'):lO Cs n m' v r:=h.imp fun O=>And.imp_right fun c=>c.up x (dU _)
section
variable {n o:Nat}{m:MH}{v:MV}{x:MO}
theorem jk.pW(h:jk n m v g)(ho:o<n):jk n (m.set o x) v g:=by
 refine az fun zG=> ?_;obtain⟨i,j,e,k,a,b⟩:=h;refine zG ?_;exact⟨i,j,e,⟨(cj (by exact Kg ho a)).trans k.a,(cj (by exact Ua ho a)).trans k.r,(cj (by exact Kg ho b)).trans k.c,k.l⟩,a,b⟩
theorem lg.pW{g:Top}(h:lg n m v g)(ho:o<n):lg n (m.set o x) v g:=by
 refine az fun zG=> ?_;obtain⟨i,j,xs,e,k,f,a,b⟩:=h;refine zG ?_;exact⟨i,j,xs,e,⟨(cj (by exact Kg ho a)).trans k.a,(cj (by exact Ua ho a)).trans k.r,(cj (by exact Kg ho b)).trans k.c,k.l⟩,f.mono fun O O c=>c.pW ho,a,b⟩
theorem jl.pW{g:ea}(h:jl n m v g)(ho:o<n):jl n (m.set o x) v g:=by
 refine az fun zG=> ?_;obtain⟨i,j,xs,e,k,f,a,b⟩:=h;refine zG ?_;exact⟨i,j,xs,e,⟨(cj (by exact Kg ho a)).trans k.a,(cj (by exact Ua ho a)).trans k.r,(cj (by exact Kg ho b)).trans k.c,k.l⟩,f.mono fun O O c=>c.pW ho,a,b⟩
theorem lO.pW(h:lO Cs n m v r)(ho:o<n):lO Cs n (m.set o x) v r:=h.imp fun O=>And.imp_right fun c=>c.pW ho
theorem Ev.pb{m2:MH}{o:Nat}{x:MO}(h:Ev m m2)(ho:m.n<=o):Ev m (m2.set o x) where
 n:=h.n
 ob:=fun t ht q=>(cj (by exact WB ho ht)).trans (h.ob t ht q)
 rc:=fun i C ht a q=>(cj (by exact acH ho ht)).trans (h.rc i C ht a q)
 dk:=fun {d jo jw b out} ⟨r,w,S⟩=>by
  have l:=S.l;refine az fun zG=> ?_;obtain⟨r',w',T⟩:=h.dk ⟨r,w,S⟩;refine zG ?_;exact⟨r',w',(cj (by exact acI ho l)).trans T.a,(cj (by exact acJ ho l)).trans T.r,(cj (by exact acK ho l)).trans T.o,(cj (by exact acL ho l)).trans T.w,T.l⟩
end
theorem gI{k:Nat}{p:Nat×Option (Int×Nat)}(h:L[k]? =some p):ck (L.take (k+1))=ck (L.take k)++(match p.2 with
  |none=> []
  |some (g,j)=> [(p.1,g,j)]):=by
 unfold ck;rw [cW h,List.filterMap_append];obtain⟨d,tl⟩:=p;cases tl with
 |none=>rfl
 |some q=>rfl
theorem ou(L:LD):(ck L).length<=L.length:=List.length_filterMap_le _ _
theorem Cn(h:∀p∈L,D_ p.2):∀r∈ck L,(10<=r.2.1/\r.2.1<=15)/\r.2.2<3:=fun r hr=>by
 unfold ck at hr;rw [List.mem_filterMap] at hr;refine az fun zG=> ?_;obtain⟨⟨d,tl⟩,hp,e⟩:=hr;refine zG ?_;cases tl with
 |none=>cases e
 |some q=>
  cases e;exact h _ hp _ _ rfl
theorem Ok.Tt{Q:MV->MH->Prop}{i:Nat}{n:Int}{ns:List Int}(o:m.ob i= .list ((n::ns).map .int))(q:Q (.int (iW (n::ns))) m):Ok (Ni [.obj i] m) Q:= .of ((cC o).trans (congrArg (Il m) (mn _))) q
theorem Co:∀(a:Int) (r:List Int),iW (a::r)∈a::r
 |a, []=>rI
 |a,b::r=>by
  have h:=Co b r;show max a (iW (b::r))∈_;rcases Int.le_total a (iW (b::r)) with q|q
  ·rw [Int.max_eq_right q];exact List.mem_cons_of_mem _ h
  ·rw [Int.max_eq_left q];exact rI
noncomputable def jW(Cs:Nat->ea)(R:List (Nat×Int×Nat)):List Int:=R.map fun r=>(Cs r.2.2).ed
noncomputable def xJ(Cs:Nat->ea)(R:List (Nat×Int×Nat)):List (Nat×Int×Nat):=R.filter fun r=>(Cs r.2.2).ed==iW (jW Cs R)
theorem Om{R:List (Nat×Int×Nat)}(h:R≠ []):∃r0 t,xJ Cs R=r0::t/\r0∈R:=by
 have hm:iW (jW Cs R)∈jW Cs R:=by
  cases R with
  |nil=>exact absurd rfl h
  |cons a r=>exact Co _ _
 unfold jW at hm;rw [List.mem_map] at hm;refine az fun zG=> ?_;obtain⟨r,hr,e⟩:=hm;refine zG ?_;cases hn:xJ Cs R with
 |nil=>
  have:r∈xJ Cs R:=List.mem_filter.mpr ⟨hr,by rw [beq_iff_eq];exact e⟩;rw [hn] at this;cases this
 |cons r0 t=>
  have:r0∈xJ Cs R:=by rw [hn];exact rI
  exact⟨r0,t,rfl,(List.mem_filter.mp this).1⟩
noncomputable def eP(Cs:Nat->ea)(G:Int)(D:List Int)(acc:List (Int×MV))(r:Nat×Int×Nat):List (Int×MV):=if((Cs r.2.2).gS=G/\D.any (· ==r.2.1)=true)/\lA r.2.1 acc=none then acc++ [(r.2.1,.obj r.1)] else acc
theorem AI:∀ {es:List (Int×MV)},lA k es=none->es.any (fun kv=>kv.1=k)=false
 | [],_=>rfl
 |(k',v)::r,h=>by
  rw [uy] at h
  by_cases q:k'=k
  ·rw [if_pos q] at h;exact bZ h.symm
  ·rw [if_neg q] at h;rw [List.any_cons,AI h,Bool.or_false];exact decide_eq_false q
theorem Cp(h:lA k es=none):B7 k x es=es++ [(k,x)]:=by
 unfold B7;rw [AI h];rfl
theorem sS{G:Int}{D:List Int}(R:List (Nat×Int×Nat)):∀acc,(R.foldl (eP Cs G D) acc).length<=acc.length+R.length:=by
 induction R with
 |nil=>intro acc;exact dU _
 |cons r R ih=>
  intro acc;rw [List.foldl_cons,oK];have:=ih (eP Cs G D acc r);have:(eP Cs G D acc r).length<=acc.length+1:=by unfold eP;split <;> simp
  exact acM (by assumption) this
section
variable {Q:MV->MH->Prop}{QB:Bool->MH->Prop}{m:MH}
theorem Ok.ind(o:m.ob d= .dict es)(q:QB (lA g es).isSome m):Ok (FD (.int g) (.obj d) m) QB:= .of (aV (by show Qm g (m.ob d)=_;rw [o];rfl)) q
theorem Ok.Tu{QU:Unit->MH->Prop}(o:m.ob d= .dict es)(h:es.length<=100000/\d<m.n)(q:QU () (m.set d (.dict (B7 g x es)))):Ok (Nd (.obj d) (.int g) x m) QU:= .of (by show DA g x d m (m.ob d)=_;rw [o];exact if_pos h) q
end
variable {m:MH}{sh od:Nat}{Cs:Nat->ea}{L:LD}
set_option maxHeartbeats 1000000 in
theorem yz(hs:c9 m sh)(ho:m.ob od= .list (L.map fun p=> .obj p.1))(GF:od<m.n)(hL:∀p∈L,mP Cs m p.1 p.2)(hl:L.length<=100)(hR:∀k,k<3->uK (Cs k)){r0:Nat×Int×Nat}{rt:List (Nat×Int×Nat)}(h0:xJ Cs (ck L)=r0::rt)(ox:r0∈ck L):
  Ok (mK.1 [.obj od,.obj sh] m) fun v m'=>∃cv ow,v= .tup [cv,.obj ow]/\eZ m' cv (Cs r0.2.2)/\m.n<=ow/\ow<m'.n/\m'.ob ow= .dict ((ck L).foldl (eP Cs (Cs r0.2.2).gS (eU (Cs r0.2.2))) [])/\Ev m m':=by
 have QW:=ou L;have aeZ:=Cn (L:=L) fun p hp=>(hL p hp).2;have i6:(ck L).length≠0:=fun e=>by rw [List.length_eq_zero_iff] at e;rw [e] at ox;cases ox
 dsimp only [mK];refine Ok.cps fun Q hq=> ?_;refine Ok.dc (eN rfl) (by keq_hits) ?_;lcg_off;have x0:=Ext.new m (.list []);refine bL.forL od (L.map fun p=> .obj p.1) (fun k fr m1=>(∃z1 z2,fr= [some (.obj od),some (.obj sh),some (.obj m.n),z1,z2,none,none,none,none,none])/\Ev m m1/\m.n<m1.n/\∃ys,m1.ob m.n= .list ys/\F2 (lO Cs (m.n+1) m1) ys (ck (L.take k))) ?_ ?_ ?_ ?_
 ·lcg_off;exact⟨rfl,⟨_,_,rfl⟩,.of x0,gA _,_,bc _ _,.nil⟩
 ·intro k fr m1 mM;refine az fun zG=> ?_;obtain⟨_,x1,_⟩:=mM;refine zG ?_;exact x1.list ho GF
 ·intro k v fr m1 e jJ J hj;refine az fun zG=> ?_;obtain⟨⟨z1,z2,rfl⟩,x1,mN,ys,o1,F1⟩:=jJ;refine zG ?_;rw [ja,nN] at e;refine az fun zG=> ?_;obtain⟨⟨d,tl⟩,hp,rfl⟩:=e;refine zG ?_;have hD:=(hL _ (jC hp)).keep x1;have hk:k<L.length:=by
   rcases Nat.lt_or_ge k L.length with h|h
   ·exact h
   ·rw [List.getElem?_eq_none h] at hp;cases hp
  have kf:ys.length<=100:=by
   rw [F1.len];have:=ou (L.take k);rw [ig] at this;exact RP hl hk this
  lcg_off;refine(sR (hs.yN x1) hD).q1 ?_;intro m2 x2;have o2:=x2.list o1 mN;have oI:m.n<m2.n:=eE mN x2.n;have vS:=F1.mono fun O O a=>a.keep x2.nk;cases tl with
  |none=>
   lcg_off;refine Ok.of (a:=true) rfl ?_;lcg_off;refine⟨⟨_,_,rfl⟩,x1.trans x2,oI,ys,o2, ?_⟩;rw [gI hp,List.append_nil];exact vS
  |some q=>
   obtain⟨g,j⟩:=q;obtain⟨hg,VL⟩:=hD.2 g j rfl;have hC:=hR j VL;have fZ:=qi hC.toConfOK;have e1:c8 (bP 4 g++gn (Cs j)) none (some 4)=bP 4 g:=(ux _ 4).trans (List.take_left' (aw _ _));have e2:c8 (bP 4 g++gn (Cs j)) (some 4) none=gn (Cs j):=(zM _ 4).trans (List.drop_left' (aw _ _));have hn:numOf (bP 4 g)=g:=fz (by exact TC hg) (by exact TF hg);lcg_off;refine Ok.of (a:=false) rfl ?_;lcg_off;refine Ok.sG rfl rfl (by rw [ir,aw];exact Hd fZ) ?_;rw [e1];lcg_off;refine Ok.ex (iH (by rw [aw];exact O4) (by rw [hn];exact TG hg) _) fun m3 x3=> ?_;rw [hn];lcg_off;refine Ok.sG rfl rfl (by rw [ir,aw];exact Hd fZ) ?_;rw [e2];lcg_off;refine(pT hC).k2 ?_;intro v m4 I4 x4;have Bx:=x3.trans x4;have o4:=(Bx.ob _ oI).trans o2;have wU:m.n<m4.n:=eE oI Bx.n;lcg_off;refine Ok.app o4 ⟨by exact lk kf,wU⟩ ?_;lcg_off;refine⟨⟨_,_,rfl⟩,(x1.trans (x2.trans (.of Bx))).pb (dU _),wU,_,fL _ _ _, ?_⟩;rw [gI hp];exact(vS.mono fun O O a=>(a.keep (.of Bx)).pW (gA _)).snoc ⟨v,rfl,(I4.up (.refl _) (by have:=x3.n;exact RQ oI this)).pW (gA _)⟩
 ·intro fr m1 fN;refine az fun zG=> ?_;obtain⟨⟨z1,z2,rfl⟩,x1,mN,ys,o1,F1⟩:=fN;refine zG ?_;rw [eW,hF] at F1;have kf:=F1.len;lcg_off;have x2:=Ext.new m1 (.list []);have e2:=bc m1 (.list []);generalize m1.new (.list [])=m2 at x2 e2;have o2:=(x2.ob _ mN).trans o1;have vS:=F1.mono fun O O a=>lO.keep a (.of x2);have oI:m.n<m2.n:=eE mN x2.n;refine Ok.IJ o2 e2 (by rw [kf];exact i6) ?_;lcg_off;refine Ok.kl m.n ys (fun fr=>∃z1 z2 z3,fr= [z1,z2,z3]) (fun k zs m3=>m3=m2/\zs=(jW Cs ((ck L).take k)).map .int) (by exact Se hl QW kf) ?_ ⟨_,_,_,rfl⟩ ?_ ?_ ?_
  ·lcg_off;exact⟨rfl,rfl,rfl⟩
  ·rintro k zs _ ⟨rfl,_⟩;exact o2
  ·intro k v zs fr _ e gQ lM U hj;refine az fun zG=> ?_;obtain⟨rfl,rfl⟩:=gQ;obtain⟨z1,z2,z3,rfl⟩:=lM;refine zG ?_;refine az fun zG=> ?_;obtain⟨r,hr,cv,rfl,CF⟩:=vS.get e;refine zG ?_;refine az fun zG=> ?_;obtain⟨i,j,xs,rfl,⟨a,q,c,l⟩,_⟩:=id CF;refine zG ?_;lcg_off;exact⟨⟨_,_,_,rfl⟩,rfl,by unfold jW;rw [cW hr,jb,jb];rfl⟩
  rintro zs PZ ⟨e2',rfl⟩;cases e2';rw [kf,hF];have x3:=Ext.new m2 (.list ((jW Cs (ck L)).map .int));have o3:=bc m2 (.list ((jW Cs (ck L)).map .int));generalize m2.new (.list ((jW Cs (ck L)).map .int))=m3 at x3 o3;obtain⟨e0,er,he⟩:∃e0 er,jW Cs (ck L)=e0::er:=by
   cases h:jW Cs (ck L) with
   |nil=>exact absurd (by have:=congrArg List.length h;unfold jW at this;simpa using this) (fun q:ck L= []=>i6 (by rw [q];rfl))
   |cons a r=>exact⟨a,r,rfl⟩
  rw [he] at o3;have wY:m.n<m3.n:=eE oI x3.n;have o3r:=(x3.ob _ oI).trans o2;have F3:=vS.mono fun O O a=>lO.keep a (.of x3);lcg_off;refine Ok.Tt o3 ?_;rw [<- he];lcg_off;refine Ok.kl m.n ys (fun fr=>∃z1,fr= [z1,some (.int (iW (jW Cs (ck L))))]) (fun k zs m4=>m4=m3/\F2 (fun v r=>jl (m.n+1) m3 v (Cs r.2.2)) zs (((ck L).take k).filter fun r=>(Cs r.2.2).ed==iW (jW Cs (ck L)))) (by exact Se hl QW kf) ?_ ⟨_,rfl⟩ ?_ ?_ ?_
  ·lcg_off;exact⟨rfl,rfl,.nil⟩
  ·rintro k zs _ ⟨rfl,_⟩;exact o3r
  ·intro k v zs fr _ e gQ lM U hj;refine az fun zG=> ?_;obtain⟨rfl,FZ⟩:=gQ;obtain⟨z1,rfl⟩:=lM;refine zG ?_;refine az fun zG=> ?_;obtain⟨r,hr,cv,rfl,CF⟩:=F3.get e;refine zG ?_;refine az fun zG=> ?_;obtain⟨i,j,xs,rfl,⟨a,q,c,l⟩,_⟩:=id CF;refine zG ?_;lcg_off
   by_cases hq:(Cs r.2.2).ed=iW (jW Cs (ck L))
   ·refine Ok.wQ hq ?_;lcg_off;refine⟨⟨_,rfl⟩,rfl, ?_⟩;rw [cW hr,List.filter_append,show [r].filter (fun r=>(Cs r.2.2).ed==iW (jW Cs (ck L)))= [r] by rw [List.filter_cons_of_pos (by rw [hq];exact beq_self_eq_true _)];rfl];exact FZ.snoc CF
   ·refine Ok.Am hq ?_;lcg_off;refine⟨⟨_,rfl⟩,rfl, ?_⟩;rw [cW hr,List.filter_append,show [r].filter (fun r=>(Cs r.2.2).ed==iW (jW Cs (ck L)))= [] by rw [List.filter_cons_of_neg (by rw [beq_iff_eq];exact hq)];rfl,List.append_nil];exact FZ
  rintro zs P0 ⟨e3',FZ⟩;cases e3';rw [kf,hF] at FZ;change F2 _ zs (xJ Cs (ck L)) at FZ;rw [h0] at FZ;cases FZ with
  | @cons cv _ VN _ hv FZ'=>
   have x4:=Ext.new m3 (.list (cv::VN));have o4:=bc m3 (.list (cv::VN));generalize m3.new (.list (cv::VN))=m4 at x4 o4;have VO:=hv.up (.of x4) (dU _);have F4:=F3.mono fun O O a=>lO.keep a (.of x4);have wU:m.n<m4.n:=eE wY x4.n;have o4r:=(x4.ob _ wY).trans o3r;lcg_off;refine Ok.qg o4 (bR rfl) (v:=cv) rfl ?_;lcg_off;refine Ok.of (a:= .obj m4.n) (m':=m4.new (.dict [])) rfl ?_;have x5:=Ext.new m4 (.dict []);have o5:=bc m4 (.dict []);have n5:m4.n<(m4.new (.dict [])).n:=gA _;generalize m4.new (.dict [])=m5 at x5 o5 n5;have hv5:=VO.up (.of x5) (dU _);have F5:=F4.mono fun O O a=>lO.keep a (.of x5);have o5r:=(x5.ob _ wU).trans o4r;have E5:=x1.trans (.of (((x2.trans x3).trans x4).trans x5));have C6:=hR _ (aeZ _ ox).2;have Ko:(eU (Cs r0.2.2)).length<=1000:=by
    have h1:=tv (l:=(Cs r0.2.2).fa) (f:=gy) fun T h=>iQ (by have:=(C6.t T h).l;exact Hc this);have h2:=C6.l;exact acN h1 h2
   lcg_off;refine bL.forL m.n ys (fun k fr m6=>(∃z1 z2 z3 z4,fr= [some (.obj od),some (.obj sh),some (.obj m.n),z1,z2,some (.int (iW (jW Cs (ck L)))),some cv,some (.obj m4.n),z3,z4])/\Ext m4 m6/\m4.n<m6.n/\m6.ob m4.n= .dict (((ck L).take k).foldl (eP Cs (Cs r0.2.2).gS (eU (Cs r0.2.2))) [])) ?_ ?_ ?_ ?_
   ·lcg_off;exact⟨rfl,⟨_,_,_,_,rfl⟩,x5,n5,o5⟩
   ·intro k fr m6 mM;refine az fun zG=> ?_;obtain⟨_,x6,_⟩:=mM;refine zG ?_;exact(x6.ob _ wU).trans o4r
   ·intro k v fr m6 e jJ J hj;refine az fun zG=> ?_;obtain⟨⟨z1,z2,z3,z4,rfl⟩,x6,n6,o6⟩:=jJ;refine zG ?_;refine az fun zG=> ?_;obtain⟨r,hr,⟨ov,rfl,CF⟩⟩:=F4.get e;refine zG ?_;have CF6:=CF.up (.of x6) (dU _);have hv6:=(VO.up (.of x6) (dU _)).to;refine az fun zG=> ?_;obtain⟨i,j,xs,rfl,⟨a,q,c,l⟩,_⟩:=id CF6;refine zG ?_;refine az fun zG=> ?_;obtain⟨i0,j0,VD,rfl,⟨a0,q0,c0,l0⟩,_⟩:=id hv6;refine zG ?_;have rW:=sS (Cs:=Cs) (G:=(Cs r0.2.2).gS) (D:=eU (Cs r0.2.2)) ((ck L).take k) [];have htk:((ck L).take k).length<=100:=by rw [ig];exact acO hl QW
    rw [cW hr,List.foldl_append] at hj;generalize FL:((ck L).take k).foldl (eP Cs (Cs r0.2.2).gS (eU (Cs r0.2.2))) []=acc at o6 rW hj;have step: [r].foldl (eP Cs (Cs r0.2.2).gS (eU (Cs r0.2.2))) acc=eP Cs (Cs r0.2.2).gS (eU (Cs r0.2.2)) acc r:=rfl;rw [step] at hj;lcg_off
    by_cases hg:(Cs r.2.2).gS=(Cs r0.2.2).gS
    ·refine Ok.wQ hg ?_;lcg_off;refine(Bv hv6 C6.toConfOK.sz.1 C6.toConfOK.sz.2).nl ?_;intro o7 m7 _ _ ho7 x7;have QX:=(x7.ob _ n6).trans o6;have n7:m4.n<m7.n:=eE n6 x7.n;lcg_off;cases hD:(eU (Cs r0.2.2)).any (· ==r.2.1) with
     |false=>
      refine Ok.ini false ho7 (mn _) hD ?_;lcg_off;refine⟨⟨_,_,_,_,rfl⟩,x6.trans x7,n7, ?_⟩;rw [QX];unfold eP;rw [if_neg (fun h=>by rw [hD] at h;exact absurd h.1.2 (bR rfl))]
     |true=>
      refine Ok.ini true ho7 (mn _) hD ?_;lcg_off;refine Ok.ind QX ?_;cases vf:lA r.2.1 acc with
      |some y=>
       simp only [Option.isSome_some];lcg_off;refine⟨⟨_,_,_,_,rfl⟩,x6.trans x7,n7, ?_⟩;rw [QX];unfold eP;rw [if_neg (fun h=>by rw [vf] at h;exact absurd h.2 (by simp))]
      |none=>
       simp only [Option.isSome_none];lcg_off;refine Ok.Tu QX ⟨by simp at rW;exact acP hl QW rW,n7⟩ ?_;lcg_off;refine⟨⟨_,_,_,_,rfl⟩,(x6.trans x7).pb (dU _),n7, ?_⟩;rw [fL,Cp vf];unfold eP;rw [if_pos ⟨⟨hg,hD⟩,vf⟩]
    ·refine Ok.Am hg ?_;lcg_off;refine⟨⟨_,_,_,_,rfl⟩,x6,n6, ?_⟩;rw [o6];unfold eP;rw [if_neg (fun h=>hg h.1.1)]
   ·intro fr m6 fN;refine az fun zG=> ?_;obtain⟨⟨z1,z2,z3,z4,rfl⟩,x6,n6,o6⟩:=fN;refine zG ?_;lcg_off;rw [kf,hF] at o6;exact⟨cv,m4.n,rfl,(VO.up (.of x6) (dU _)).to,by exact TU wU,n6,o6,x1.trans (.of (((x2.trans x3).trans x4).trans x6))⟩
end
section
noncomputable def IZ: {fd:FuncData //∃oc od we,∀w,(KK w).lookup 580=some ⟨oc,od,.func fd,we⟩}:=⟨_,_,_,_,fun w=>rfl⟩
noncomputable def J4: {b:List Stmt //IZ.1.body= .stmts b}:=⟨_,rfl⟩
noncomputable def fe(k:Nat):Stmt:=J4.1.getD k (.Pass default)
noncomputable def mQ:Sg:=⟨["script","shape","configs","made_of","rows","disk","told","editions","config","own","newest","due"], ["Shape","_law_configs","_law_cell","len","_law_told","found_disks","sorted","all"],IZ.1.scope.names⟩
noncomputable def AJ: {c //fY 9 mQ (fe 1) c}:=⟨_,(nI (b7 (sA (KU (.head _) Kv Kw Cb.2 (by decide)) (sA (sC (mi 1 rfl) yb yc (sA (sV 0) ab) mJ.2.fn) ab))) (.cons (i:=1) rfl (fun h=>nomatch h) (.cons (i:=2) rfl (fun h=>nomatch h) .nil)) rfl (fun O=>by kernel_rfl!))⟩
noncomputable def AK: {c //fY 9 mQ (fe 2) c}:=⟨_,(bh 3 rfl (cN (sA (ak ag (ak (ak (sC (.tail _ (mi 1 rfl)) jq jr (sA (sV 0) (sA ag ab)) gF.2.fn) ag fc) ag dW) bY) (sA (ak ag (ak (ak (sC (.tail _ (mi 1 rfl)) jq jr (sA (sV 0) (sA ag ab)) gF.2.fn) ag fc) ag dW) bY) (sA (ak ag (ak (sC (.tail _ (mi 1 rfl)) jq jr (sA (sV 0) (sA ag ab)) gF.2.fn) ag dW) bY) ab)))) rfl)⟩
noncomputable def GG: {c //fY 9 mQ (fe 3) c}:=⟨_,(qz 4 rfl rfl (by decide +kernel) (own:= ["x"]) (cap:= ["shape","configs"]) (gs:= ["_law_disk"]) (idx:= [1,2]) (by decide +kernel) (aY (kP (aD (sC (.tail _ (.tail _ (mi 1 rfl))) ey (aG rfl) (sA (sV 0) ab) ez) ag kZ rfl) (eB (sV 0) (b9 ag) (b9 ag)) (cN (sA ag (sA ag ab))))) (bB 0 rfl (fun O=>rfl)) c_ (sC (.head _) C_ Dc (sA (sV 1) (sA (sV 2) (sA (sV 0) ab))) qJ.2.fn) (fun O O=>rfl))⟩
noncomputable def AL: {c //fY 9 mQ (fe 4) c}:=⟨_,(dM (aY (sV 4)) (fv (.cons (i:=5) rfl (fun h=>nomatch h) (.cons (i:=6) rfl (fun h=>nomatch h) .nil))) (ar (bN (aD (sC (.tail _ (.tail _ (.tail _ (mi 1 rfl)))) Dd De (sA (sV 5) (sA (sV 1) ab)) qK.2.fn) (kP (aD (sV 6) d_ Ip rfl) d_ (b7 (sA (bK (sV 6) ag (fun O O=>rfl)) (sA (aL (bK (sV 2) (bK (sV 6) ag (fun O O=>rfl)) (fun O O=>rfl)) ab (fun O=>rfl) (.cons jt ju f_.2.fn (by decide) .nil) (fun O=>⟨_,rfl⟩)) ab)))) ji rfl) (ar (aT jf)) bu)) (fun O O=>rfl))⟩
noncomputable def GH: {c //fY 9 mQ (fe 5) c}:=⟨_,(FO 7 rfl rfl (cZ (own:= ["disk","told"]) (cap:= ["configs"]) (gs:= []) (idx:= [2]) (by decide +kernel) (aY (sV 4)) (fv (.cons (i:=0) rfl (fun O=>rfl) (.cons (i:=1) rfl (fun O=>rfl) .nil))) (wh (aD (sV 1) d_ nH rfl)) (aq (bK (sV 2) (bK (sV 1) ag (fun O O=>rfl)) (fun O O=>rfl)) kB (fun O=>rfl)) (fun O O=>rfl)))⟩
noncomputable def AM: {c //fY 9 mQ (fe 6) c}:=⟨_,(wM (ar (nI (sC (.tail _ (.tail _ (.tail _ (.tail _ (mi 1 rfl))))) qZ q_ (sA (cZ (own:= ["disk","told"]) (cap:= []) (gs:= []) (idx:= []) (by decide +kernel) (aY (sV 4)) (fv (.cons (i:=0) rfl (fun O=>rfl) (.cons (i:=1) rfl (fun O=>rfl) .nil))) c_ (sV 0) (fun O O=>rfl)) (sA (sV 1) ab)) mK.2.fn) (.cons (i:=8) rfl (fun h=>nomatch h) (.cons (i:=9) rfl (fun h=>nomatch h) .nil)) rfl (fun O=>by kernel_rfl!))))⟩
noncomputable def AO: {c //fY 9 mQ (fe 7) c}:=⟨_,(bN (aD (sV 7) (cN ab) eT rfl) (ar (aT jf)) bu)⟩
noncomputable def GI: {c //fY 9 mQ (fe 8) c}:=⟨_,(bh 10 rfl (bK (cZ (own:= ["disk","told"]) (cap:= ["editions","configs"]) (gs:= ["max"]) (idx:= [7,2]) (by decide +kernel) (aY (sV 4)) (fv (.cons (i:=0) rfl (fun O=>rfl) (.cons (i:=1) rfl (fun O=>rfl) .nil))) (wh (bG (bS (aD (sV 1) d_ nH rfl) (bS (aD (aq (bK (sV 3) (bK (sV 1) ag (fun O O=>rfl)) (fun O O=>rfl)) kB (fun O=>rfl)) (sC (.head _) Dh (aG rfl) (sA (sV 2) ab) DG) eT rfl) dB)))) (bK (sV 1) ag (fun O O=>rfl)) (fun O O=>rfl)) ag (fun O O=>rfl)) rfl)⟩
noncomputable def AP: {c //fY 9 mQ (fe 9) c}:=⟨_,(bh 11 rfl xx rfl)⟩
noncomputable def w7: {c //fY 9 mQ (fe 10) c}:=⟨_,(dM (aY (sV 4)) (fv (.cons (i:=5) rfl (fun h=>nomatch h) (.cons (i:=6) rfl (fun h=>nomatch h) .nil))) (ar (bN (bG (bS (aD (sV 6) d_ nH rfl) (bS (aD (bK (sV 6) ag (fun O O=>rfl)) (sV 11) tj rfl) (bS (aD (aq (bK (sV 2) (bK (sV 6) ag (fun O O=>rfl)) (fun O O=>rfl)) fG (fun O=>rfl)) (aq (bK (sV 2) (sV 10) (fun O O=>rfl)) fG (fun O=>rfl)) eT rfl) dB)))) (ar (bN (gC ag (bK (sV 6) ag (fun O O=>rfl)) (ak ag (bK (sV 3) (sV 10) (fun O O=>rfl)) bY) fR fS rfl) (ar (wH (sV 5) (sV 11) (bK (sV 6) ag (fun O O=>rfl)) rfl)) bu)) bu)) (fun O O=>rfl))⟩
noncomputable def w8: {c //fY 9 mQ (fe 11) c}:=⟨_,(bN (bG (b4 (aD (aL (sV 8) ab (fun O=>rfl) (.cons jt ju f_.2.fn (by decide) .nil) (fun O=>⟨_,rfl⟩)) (aL (bK (sV 2) (sV 10) (fun O O=>rfl)) ab (fun O=>rfl) (.cons jt ju f_.2.fn (by decide) .nil) (fun O=>⟨_,rfl⟩)) ji rfl) (b4 (aD (sC (.tail _ (.tail _ (.tail _ (.tail _ (.tail _ (mi 1 rfl)))))) uu (aG rfl) (sA (sV 9) ab) uD) (sC (.tail _ (.tail _ (.tail _ (.tail _ (.tail _ (mi 1 rfl)))))) uu (aG rfl) (sA (sV 11) ab) uD) ji rfl) dY))) (ar (aT jf)) bu)⟩
end
section
variable {k n:Nat}{x:MV}{xs:List MV}{QB:Bool->MH->Prop}{m:MH}{C:ea}{w:Int}
def Dat(k:Nat)(x:MV):Prop:=∃d,dataOf x=some d/\d.canLay0=true/\d.depth<=k
def mr(k:Nat)(xs:List MV):Prop:=∃ds,nV xs=some ds/\PyData.canLayAll0 ds=true/\PyData.depthAll ds<=k
theorem Dat.int(k:Nat)(n:Int):Dat k (.int n):=⟨.int n,rfl,rfl,Nat.zero_le _⟩
theorem Dat.none(k:Nat):Dat k .none:=⟨.none,rfl,rfl,Nat.zero_le _⟩
theorem Dat.str(k:Nat){x:Str}(h:PyData.strOk x=true):Dat k (.str x):=⟨.str x,rfl,h,Nat.zero_le _⟩
theorem mr.nil(k:Nat):mr k []:=⟨[],rfl,rfl,Nat.zero_le _⟩
theorem mr.cons(h:Dat k x)(hs:mr k xs):mr k (x::xs):=by
 refine az fun zG=> ?_;obtain⟨d,e,c,l⟩:=h;refine zG ?_;refine az fun zG=> ?_;obtain⟨ds,e2,c2,l2⟩:=hs;refine zG ?_;refine⟨d::ds,(congrArg (Option.bind · fun d=>(nV xs).bind fun ds=>some (d::ds)) e).trans (congrArg (Option.bind · fun ds=>some (d::ds)) e2),Bool.and_eq_true_iff.mpr ⟨c,c2⟩, ?_⟩;exact Nat.max_le.mpr ⟨l,l2⟩
theorem mr.tup(h:mr k xs):Dat (k+1) (.tup xs):=by
 refine az fun zG=> ?_;obtain⟨ds,e,c,l⟩:=h;refine zG ?_;exact⟨.tuple ds,congrArg (Option.bind · fun ds=>some (PyData.tuple ds)) e,c,by exact O65 l⟩
theorem mr.of(h:∀x∈xs,Dat k x):mr k xs:=by
 induction xs with
 |nil=>exact .nil k
 |cons a r ih=>exact .cons (h a rI) (ih fun x hx=>h x (List.mem_cons_of_mem _ hx))
theorem AQ(h:Dat k x)(hk:k<=10):zW (dataOf x) (dataOf x)=some true:=by
 refine az fun zG=> ?_;obtain⟨d,e,c,l⟩:=h;refine zG ?_;rw [e];refine(if_pos ?_).trans (congrArg some (SeqAt.eqv_refl d c));rw [c,decide_eq_true (by rw [Nat.min_self];exact XJ hk l)];rfl
theorem Ok.eqt(h:Dat k (.tup xs))(hk:k<=10)(q:QB true m):Ok (vA (.tup xs) (.tup xs) m) QB:= .of (a:=true) (aV (AQ h hk)) q
theorem Ok.eqn(q:QB true m):Ok (vA .none .none m) QB:= .of (a:=true) (aV (AQ (Dat.none 0) (bR rfl))) q
theorem GJ(s:Nat):PyData.strOk (gH s)=true:=
 match s with
 |0=>by decide +kernel
 |1=>by decide +kernel
 |n+2=>by show PyData.strOk "raidz"=true;decide +kernel
theorem I0(g:Int):Dat 2 (DX g):=mr.tup (.cons (.str _ (GJ 0)) (.cons (.int _ _) (.cons (.int _ _) (.cons (mr.tup (.nil 0)) (.nil _)))))
theorem Ll(T:Top):Dat 4 (JU T):=mr.tup (.cons (.str _ (GJ _)) (.cons (.int _ _) (.cons (.int _ _) (.cons (mr.tup (.of fun x hx=>by
 rw [List.mem_map] at hx;refine az fun zG=> ?_;obtain⟨g,_,rfl⟩:=hx;refine zG ?_;exact I0 g)) (.nil _)))))
theorem AR(h:PyData.strOk (strOf C.name)=true):Dat 6 (DY C):=mr.tup (.cons (.str _ h) (.cons (.int _ _) (.cons (.int _ _) (.cons (mr.tup (.of fun x hx=>by
 rw [List.mem_map] at hx;refine az fun zG=> ?_;obtain⟨g,_,rfl⟩:=hx;refine zG ?_;exact Ll g)) (.nil _)))))
theorem I1(h:PyData.strOk (strOf C.name)=true)(g:Int):Dat 7 (.tup [.int g,DY C]):=mr.tup (.cons (.int _ _) (.cons (AR h) (.nil _)))
noncomputable def J5(a b c:Int):Nat->ea
 |0=>IK a b
 |1=>IL a b
 |_=>IM c
noncomputable def Ed(a b c:Int):Nat->Nat
 |0=>nA a
 |1=>nB b
 |_=>nC c
structure xK (Cs:Nat->ea) (mk:Nat->Nat):Prop where
 r:∀k,k<3->uK (Cs k)
 l:∀k,k<3->4+(gn (Cs k)).length<=148
 d:∀k,k<3->eU (Cs k)=fJ (mk k)
 s:∀k,k<3->PyData.strOk (strOf (Cs k).name)=true
 m:∀k,k<3->mk k<=5
theorem pX{α β γ:Type}(l:List α)(f:α->β)(g:β->List γ):(l.map f).flatMap g=l.flatMap fun x=>g (f x):=by
 induction l with
 |nil=>rfl
 |cons a r ih=>rw [List.map_cons,List.flatMap_cons,List.flatMap_cons,ih]
theorem GK(h5:n<=5):((dm n w).map e9).flatMap ip=(dm n w).flatMap fun P=>ip (e9 P):=pX _ _ _
theorem Ee(h5:n<=5):(((dm n w).map e9).flatMap ip).length<=42:=by
 rw [GK h5];have hl:=Ax n;have one:∀l:List Int,((l.map Plan.mY).flatMap fun P=>ip (e9 P)).length=7*l.length:=fun l=>by
  rw [pX,uJ (c:=7) fun g O=> ?_];rw [qh];rfl
 unfold dm
 split
 ·rw [List.flatMap_cons,ir,one,oJ];show(ip ⟨1,_,0,(fJ n).take 2⟩).length+_<=_;rw [qh];simp only [List.length_take];exact XK h5 hl (by assumption)
 ·split
  ·rw [List.flatMap_cons,ir,one,oJ];show(ip ⟨2,_,1,(fJ n).take 3⟩).length+_<=_;rw [qh];simp only [List.length_take];exact XM h5 hl (by assumption)
  ·rw [one];exact XN h5 hl
theorem w9{nm:List Nat}{g e:Int}(hn:∀c∈nm,32<=c/\c<127)(hl:nm.length<=5)(hg:0<=g/\g<2 ^ 60)(he:0<=e/\e<2 ^ 32)(h1:1<=n)(h5:n<=5):
  uK ⟨nm,g,e,(dm n w).map e9⟩/\4+(gn ⟨nm,g,e,(dm n w).map e9⟩).length<=148/\eU ⟨nm,g,e,(dm n w).map e9⟩=fJ n:=by
 refine az fun zG=> ?_;obtain⟨p1,p2,p3⟩:=nt (w:=w) h1 h5;refine zG ?_;have ht:∀T∈(dm n w).map e9,JV T:=fun T hT=>by
  rw [List.mem_map] at hT;refine az fun zG=> ?_;obtain⟨P,hP,rfl⟩:=hT;refine zG ?_;exact Ti (p1 P hP)
 refine⟨⟨⟨hn,jc hl (bR rfl),hg,he,fun T hT=>(ht T hT).toTopOK,by rw [eW];exact p3⟩,ht,fun h=>p2 (List.map_eq_nil_iff.mp h)⟩, ?_, ?_⟩
 ·have:=Ee (w:=w) h5;unfold gn;simp only [List.length_append,aw,List.length_map];exact XO hl this
 ·show((dm n w).map e9).flatMap gy=_;rw [pX];exact j9 n w
theorem Lm(a:Int):(∀c∈nameA a,32<=c/\c<127)/\PyData.strOk (strOf (nameA a))=true:=by
 have h:=eO a (k:=3) (by decide);unfold nameA;generalize a.fmod 3=x at h;have:x=0\/x=1\/x=2:=by exact Rn h
 rcases this with rfl|rfl|rfl
 ·exact⟨by decide +kernel,by decide +kernel⟩
 ·exact⟨by decide +kernel,by decide +kernel⟩
 ·exact⟨by decide +kernel,by decide +kernel⟩
theorem ae5(a b c:Int):xK (J5 a b c) (Ed a b c):=by
 obtain⟨n1,n2⟩:=Lm a;have r1:=eO (a.fdiv 3) (k:=5) (by decide);have r2:=eO (b.fdiv 5) (k:=5) (by decide);have r3:=eO c (k:=5) (by decide);have r4:=eO b (k:=5) (by decide);have r5:=eO (a.fdiv 45) (k:=3) (by decide);have r6:=eO (b.fdiv 75) (k:=4) (by decide);have r7:=eO (c.fdiv 15) (k:=4) (by decide);have h0:=w9 (nm:=nameA a) (g:=70+b.fmod 5) (e:=1+(a.fdiv 45).fmod 3) (n:=nA a) (w:=(a.fdiv 15).fmod 3) n1 (by simp [nameA]) (by exact Ro r4) (by exact XQ r5) (by unfold nA;exact Kd r1) (by unfold nA;exact O5 r1);have h1:=w9 (nm:=nameA a) (g:=70+b.fmod 5) (e:=1+(b.fdiv 75).fmod 4) (n:=nB b) (w:=(b.fdiv 25).fmod 3) n1 (by simp [nameA]) (by exact Ro r4) (by exact Rp r6) (by unfold nB;exact Kd r2) (by unfold nB;exact O5 r2);have h2:=w9 (nm:= [122]) (g:=80) (e:=1+(c.fdiv 15).fmod 4) (n:=nC c) (w:=(c.fdiv 5).fmod 3) (by decide) (by decide) (by decide) (by exact Rp r7) (by unfold nC;exact Kd r3) (by unfold nC;exact O5 r3);have three:∀k,k<3->k=0\/k=1\/k=2:=fun k h=>by exact WC h
 refine⟨fun k hk=> ?_,fun k hk=> ?_,fun k hk=> ?_,fun k hk=> ?_,fun k hk=> ?_⟩
 ·rcases three k hk with rfl|rfl|rfl
  ·exact h0.1
  ·exact h1.1
  ·exact h2.1
 ·rcases three k hk with rfl|rfl|rfl
  ·exact h0.2.1
  ·exact h1.2.1
  ·exact h2.2.1
 ·rcases three k hk with rfl|rfl|rfl
  ·exact h0.2.2
  ·exact h1.2.2
  ·exact h2.2.2
 ·rcases three k hk with rfl|rfl|rfl
  ·exact n2
  ·exact n2
  ·show PyData.strOk (strOf [122])=true;decide +kernel
 ·rcases three k hk with rfl|rfl|rfl
  ·show nA a<=5;unfold nA;exact O5 r1
  ·show nB b<=5;unfold nB;exact O5 r2
  ·show nC c<=5;unfold nC;exact O5 r3
end
section
structure LE (Cs:Nat->ea) (xs:List Int) (m:MH) (s sh cs:Nat):Prop where
 s:m.ob s= .list (xs.map .int)/\s<m.n
 sh:c9 m sh
 cs:∃cl,m.ob cs= .list cl/\cs<m.n/\cl.length=3/\∀k v,cl[k]? =some v->eZ m v (Cs k)
theorem LE.keep{Cs:Nat->ea}{xs:List Int}{m m':MH}{s sh cs:Nat}(h:LE Cs xs m s sh cs)(x:Ev m m'):LE Cs xs m' s sh cs:=by
 refine az fun zG=> ?_;obtain⟨⟨a,b⟩,c,cl,d,e,f,g⟩:=h;refine zG ?_;exact⟨⟨x.list a b,eE b x.n⟩,c.yN x,cl,x.list d e,eE e x.n,f,fun k v q=>(g k v q).keep x.nk⟩
section
variable {m:MH}{s sh cs mo ro:Nat}{xs:List Int}{Cs:Nat->ea}{mk:Nat->Nat}{L:LD}
theorem Oo(o:m.ob s= .list (xs.map .int))(hs:s<m.n)(hz:xs.length<=63):
  bL (AJ.1 [some (.obj s),none,none,none,none,none,none,none,none,none,none,none] m) fun f fr m'=>f= .next/\∃sh cs,fr= [some (.obj s),some (.obj sh),some (.obj cs),none,none,none,none,none,none,none,none,none]/\LE (J5 (eK xs 0) (eK xs 1) (eK xs 2)) xs m' s sh cs/\Ext m m':=by
 refine bL.cps fun Q hq=> ?_;dsimp only [AJ];lcg_off;refine(Gu m).q2 ?_;intro m1 S1 x1;have o1:=(x1.ob _ hs).trans o;have rX:=eE hs x1.n;lcg_off;refine(yw o1 rX (by exact lk hz)).mono ?_;intro _ m2 fN;refine az fun zG=> ?_;obtain⟨cs,c0,c1,c2,rfl,h1,h2,h3,C0,C1,C2,x2⟩:=fN;refine zG ?_;lcg_off;refine⟨_,_,rfl,⟨⟨(x2.ob _ rX).trans o1,eE rX x2.n⟩,S1.keep x2,_,h3,h2,rfl,fun k v e=> ?_⟩,x1.trans x2⟩
 match k,e with
 |0,e=>simp at e;subst e;exact C0
 |1,e=>simp at e;subst e;exact C1
 |2,e=>simp at e;subst e;exact C2
 |k+3,e=>simp at e
noncomputable def VP(mk:Nat->Nat):List MV:= [.int (mk 0),.int (mk 1),.int (mk 2)]
theorem Oq(h:LE (J5 (eK xs 0) (eK xs 1) (eK xs 2)) xs m s sh cs)(hz:xs.length<=63):
  bL (AK.1 [some (.obj s),some (.obj sh),some (.obj cs),none,none,none,none,none,none,none,none,none] m) fun f fr m'=>f= .next/\∃mo,fr= [some (.obj s),some (.obj sh),some (.obj cs),some (.obj mo),none,none,none,none,none,none,none,none]/\m'.ob mo= .list (VP (Ed (eK xs 0) (eK xs 1) (eK xs 2)))/\mo<m'.n/\Ext m m':=by
 refine bL.cps fun Q hq=> ?_;obtain⟨o,hs⟩:=h.s;dsimp only [AK];lcg_off;refine(jB (k:=0) o (by exact lk hz) (bR rfl)).q1 ?_;rintro _ rfl;lcg_off;refine(jB (k:=1) o (by exact lk hz) (bR rfl)).q1 ?_;rintro _ rfl;lcg_off;refine(jB (k:=2) o (by exact lk hz) (bR rfl)).q1 ?_;rintro _ rfl;lcg_off;have r1:=eO ((eK xs 0).fdiv 3) (k:=5) (by decide);have r2:=eO ((eK xs 1).fdiv 5) (k:=5) (by decide);have r3:=eO (eK xs 2) (k:=5) (by decide);refine⟨_,rfl, ?_,gA _,.new _ _⟩;rw [bc];show _=MO.list [.int ((1+((eK xs 0).fdiv 3).fmod 5).toNat:Int),.int ((1+((eK xs 1).fdiv 5).fmod 5).toNat:Int),.int ((1+(eK xs 2).fmod 5).toNat:Int)];rw [Int.toNat_of_nonneg (by exact TK r1),Int.toNat_of_nonneg (by exact TK r2),Int.toNat_of_nonneg (by exact TK r3)]
noncomputable def jL(p:Nat×Option (Int×Nat)):MV:= .tup [.obj p.1,l8 p.2]
theorem Ot(h:LE Cs xs m s sh cs)(hz:xs.length<=63)(E8:xK Cs mk){z1:Option MV}:
  bL (GG.1 [some (.obj s),some (.obj sh),some (.obj cs),z1,none,none,none,none,none,none,none,none] m) fun f fr m'=>f= .next/\∃(ro:Nat) (L:LD),fr= [some (.obj s),some (.obj sh),some (.obj cs),z1,some (.obj ro),none,none,none,none,none,none,none]/\m'.ob ro= .list (L.map jL)/\ro<m'.n/\(∀p∈L,mP Cs m' p.1 p.2)/\L.length<=6/\Ext m m':=by
 refine bL.cps fun Q hq=> ?_;obtain⟨o,hs⟩:=h.s;refine bL.use ?_;have key:∀(i:Nat) (ys:List Int) (m1:MH),m1.ob i= .list (ys.map .int)->i<m1.n->Ext m m1->ys.length<=6->True:=fun O O O O O O O=>trivial;have ae6:∃(i:Nat) (ys:List Int) (m1:MH),m1.ob i= .list (ys.map .int)/\i<m1.n/\Ext m m1/\ys.length<=6/\
   (if 3<xs.length then i=m.n/\m1=m.new (.list ((c8 xs (some 3) (some 9)).map .int))/\ys=c8 xs (some 3) (some 9) else i=m.n/\m1=m.new (.list [.int 0,.int 5])/\ys= [0,5]):=by
  by_cases hl:3<xs.length
  ·refine⟨m.n,c8 xs (some 3) (some 9),_,bc _ _,gA _,.new _ _, ?_,by rw [if_pos hl];exact⟨rfl,rfl,rfl⟩⟩;have:c8 xs (some 3) (some 9)=(xs.drop 3).take 6:=tc xs (a:=3) (c:=9) (bR rfl);rw [this,ig];exact Xm
  ·exact⟨m.n, [0,5],_,bc _ _,Nat.lt_succ_self _,.new _ _,by simp,by rw [if_neg hl];exact⟨rfl,rfl,rfl⟩⟩
 refine az fun zG=> ?_;obtain⟨i,ys,m1,hi,hil,x1,A4,yO⟩:=ae6;refine zG ?_;have h1:=h.keep (.of x1);refine Ok.kl i (ys.map .int) (fun fr=>∃o,fr= [o,some (.obj sh),some (.obj cs)]) (fun k zs m2=>Ext m1 m2/\∃L:LD,zs=L.map jL/\(∀p∈L,mP Cs m2 p.1 p.2)/\L.length=k) (by rw [eW];exact L0 A4) ?_ ⟨_,rfl⟩ ?_ ?_ ?_
 ·lcg_off;refine Ok.xF o (by rw [eW];exact Ww hz) ?_
  by_cases hl:3<xs.length
  ·rw [if_pos hl] at yO;refine az fun zG=> ?_;obtain⟨rfl,rfl,rfl⟩:=yO;refine zG ?_;lcg_off;refine Ok.S_ (by rw [eW];exact Xn hl) ?_;lcg_off;refine Ok.Gk o rfl rfl (by rw [eW];exact Ww hz) ?_;have e:c8 (xs.map MV.int) (some 3) (some 9)=(c8 xs (some 3) (some 9)).map MV.int:=by
    unfold c8;rw [eW,List.map_take,List.map_drop]
   rw [e];lcg_off;exact⟨rfl,.refl _, [],rfl,fun O h=>(List.not_mem_nil h).elim,rfl⟩
  ·rw [if_neg hl] at yO;refine az fun zG=> ?_;obtain⟨rfl,rfl,rfl⟩:=yO;refine zG ?_;lcg_off;refine Ok.Ta (by rw [eW];exact Xo hl) ?_;lcg_off;exact⟨rfl,.refl _, [],rfl,fun O h=>(List.not_mem_nil h).elim,rfl⟩
 ·rintro k zs m2 ⟨x2,_⟩;exact(x2.ob _ hil).trans hi
 ·intro k v zs fr m2 e gQ lM U hj;refine az fun zG=> ?_;obtain⟨x2,L,rfl,hL,hk⟩:=gQ;obtain⟨o',rfl⟩:=lM;refine zG ?_;rw [ja,nN] at e;refine az fun zG=> ?_;obtain⟨x,hx,rfl⟩:=e;refine zG ?_;have h2:=h1.keep (.of x2);refine az fun zG=> ?_;obtain⟨cl,c1,c2,c3,c4⟩:=h2.cs;refine zG ?_;lcg_off;refine(Ea h2.sh c1 c3 c2 c4 (fun k hk=>⟨(E8.r k hk).toConfOK,E8.l k hk⟩) x).mono ?_;intro _ m3 fN;refine az fun zG=> ?_;obtain⟨d,tl,rfl,hd,x3,D⟩:=fN;refine zG ?_;lcg_off;refine⟨⟨_,rfl⟩,x2.trans x3,L++ [(d,tl)],by rw [jb];rfl,fun p hp=> ?_,by rw [ir,hk];rfl⟩;rcases List.mem_append.mp hp with hp|hp
  ·exact(hL p hp).keep (.of x3)
  ·rw [List.mem_singleton] at hp;subst hp;exact D
 ·intro zs m2 fN;refine az fun zG=> ?_;obtain⟨x2,L,rfl,hL,hk⟩:=fN;refine zG ?_;rw [eW] at hk;have x3:=Ext.new m2 (.list (L.map jL));lcg_off;exact⟨_,L,rfl,bc _ _,gA _,fun p hp=>(hL p hp).keep (.of x3),by exact Xp A4 hk,(x1.trans x2).trans x3⟩
end
end
section
variable {eo k:Nat}{QB:Bool->MH->Prop}
structure LS (Cs:Nat->ea) (mk:Nat->Nat) (m:MH) (sh cs mo ro:Nat) (L:LD):Prop where
 sh:c9 m sh
 cs:∃cl,m.ob cs= .list cl/\cs<m.n/\cl.length=3/\∀k v,cl[k]? =some v->eZ m v (Cs k)
 mo:m.ob mo= .list (VP mk)/\mo<m.n
 ro:m.ob ro= .list (L.map jL)/\ro<m.n
 dk:∀p∈L,mP Cs m p.1 p.2
 len:L.length<=6
theorem LS.keep{Cs:Nat->ea}{mk:Nat->Nat}{m m':MH}{sh cs mo ro:Nat}{L:LD}(h:LS Cs mk m sh cs mo ro L)(x:Ev m m'):LS Cs mk m' sh cs mo ro L:=by
 refine az fun zG=> ?_;obtain⟨c,⟨cl,d,e,f,g⟩,⟨a,b⟩,⟨a',b'⟩,D,l⟩:=h;refine zG ?_;exact⟨c.yN x,⟨cl,x.list d e,eE e x.n,f,fun k v q=>(g k v q).keep x.nk⟩,⟨x.list a b,eE b x.n⟩,⟨x.list a' b',eE b' x.n⟩,fun p hp=>(D p hp).keep x,l⟩
section
variable {m:MH}{sh cs mo ro:Nat}{Cs:Nat->ea}{mk:Nat->Nat}{L:LD}{a0 z5 z6:Option MV}
theorem LS.Cq(h:LS Cs mk m sh cs mo ro L)(hk:k<3):∃cl v,m.ob cs= .list cl/\cl[k]? =some v/\eZ m v (Cs k):=by
 refine az fun zG=> ?_;obtain⟨cl,d,e,f,g⟩:=h.cs;refine zG ?_;exact⟨cl,cl[k],d,iq (by exact RE hk f),g _ _ (iq (by exact RE hk f))⟩
theorem Ok.ae7{xs:List MV}(q:QB false m):Ok (FC (.tup xs) .none m) QB:= .of rfl q
theorem Ok.ae8(q:QB true m):Ok (FC .none .none m) QB:= .of rfl q
end
section
variable {m:MH}{sh cs mo ro:Nat}{Cs:Nat->ea}{mk:Nat->Nat}{L:LD}{a0 z5 z6:Option MV}
theorem Ou(h:LS Cs mk m sh cs mo ro L)(hC:xK Cs mk):
  bL (AL.1 [a0,some (.obj sh),some (.obj cs),some (.obj mo),some (.obj ro),z5,z6,none,none,none,none,none] m) fun f fr m'=>f= .next/\(∃z5 z6,fr= [a0,some (.obj sh),some (.obj cs),some (.obj mo),some (.obj ro),z5,z6,none,none,none,none,none])/\Ev m m':=by
 refine bL.cps fun Q hq=> ?_;dsimp only [AL];refine bL.forL ro (L.map jL) (fun k fr m1=>(∃z5 z6,fr= [a0,some (.obj sh),some (.obj cs),some (.obj mo),some (.obj ro),z5,z6,none,none,none,none,none])/\Ev m m1) ?_ ?_ ?_ ?_
 ·lcg_off;exact⟨rfl,⟨_,_,rfl⟩,.refl _⟩
 ·rintro k fr m1 ⟨_,x1⟩;exact x1.list h.ro.1 h.ro.2
 ·intro k v fr m1 e jJ J hj;refine az fun zG=> ?_;obtain⟨⟨z5,z6,rfl⟩,x1⟩:=jJ;refine zG ?_;rw [ja,nN] at e;refine az fun zG=> ?_;obtain⟨⟨d,tl⟩,hp,rfl⟩:=e;refine zG ?_;have h1:=h.keep x1;have D:=h1.dk _ (jC hp);unfold jL;lcg_off;refine(Ec h1.sh D hC.r).q1 ?_;intro m2 x2;have h2:=h1.keep x2
  match tl,D with
  |none,D=>
   delta l8 Eb;lcg_off;refine Ok.eqn ?_;lcg_off;exact⟨⟨_,_,rfl⟩,x1.trans x2⟩
  |some (g,k'),D=>
   obtain⟨hg,hk⟩:=D.2 g k' rfl;refine az fun zG=> ?_;obtain⟨cl,v,c1,c2,c3⟩:=h2.Cq hk;refine zG ?_;refine az fun zG=> ?_;obtain⟨i,j,xs,rfl,⟨a,q,c,l⟩,_⟩:=id c3;refine zG ?_;delta l8 Eb;lcg_off;refine Ok.qg c1 (by exact Cx hk) (by rw [l9];exact c2) ?_;lcg_off;have hR:=(hC.r k' hk).toConfOK;refine(jz c3 hR.sz.1 hR.sz.2).q1 ?_;intro m3 x3;lcg_off;refine Ok.eqt (I1 (hC.s k' hk) g) (bR rfl) ?_;lcg_off;exact⟨⟨_,_,rfl⟩,x1.trans (x2.trans (.of x3))⟩
 ·rintro fr m1 ⟨hz,x1⟩;lcg_off;exact⟨hz,x1⟩
theorem Cr{p:Nat×Option (Int×Nat)}(h:L[k]? =some p):jW Cs (ck (L.take (k+1)))=jW Cs (ck (L.take k))++(match p.2 with
  |none=> []
  |some (g,j)=> [(Cs j).ed]):=by
 rw [gI h];unfold jW;rw [jb];obtain⟨d,tl⟩:=p;cases tl <;> rfl
theorem Ov(h:LS Cs mk m sh cs mo ro L):
  bL (GH.1 [a0,some (.obj sh),some (.obj cs),some (.obj mo),some (.obj ro),z5,z6,none,none,none,none,none] m) fun f fr m'=>f= .next/\∃eo,fr= [a0,some (.obj sh),some (.obj cs),some (.obj mo),some (.obj ro),z5,z6,some (.obj eo),none,none,none,none]/\m'.ob eo= .list ((jW Cs (ck L)).map .int)/\eo<m'.n/\Ext m m':=by
 refine bL.cps fun Q hq=> ?_;refine bL.use ?_;refine Ok.kl ro (L.map jL) (fun fr=>∃z1 z2,fr= [z1,z2,some (.obj cs)]) (fun k zs m1=>m1=m/\zs=(jW Cs (ck (L.take k))).map .int) (by have:=h.len;rw [eW];exact L0 this) ?_ ⟨_,_,rfl⟩ ?_ ?_ ?_
 ·lcg_off;exact⟨rfl,rfl,rfl⟩
 ·rintro k zs _ ⟨rfl,_⟩;exact h.ro.1
 ·intro k v zs fr _ e gQ lM U hj;refine az fun zG=> ?_;obtain⟨rfl,rfl⟩:=gQ;obtain⟨z1,z2,rfl⟩:=lM;refine zG ?_;rw [ja,nN] at e;refine az fun zG=> ?_;obtain⟨⟨d,tl⟩,hp,rfl⟩:=e;refine zG ?_;have D:=h.dk _ (jC hp);unfold jL
  match tl,hp,D with
  |none,hp,D=>
   unfold l8;lcg_off;exact⟨⟨_,_,rfl⟩,rfl,by rw [Cr hp,List.append_nil]⟩
  |some (g,k'),hp,D=>
   obtain⟨hg,hk⟩:=D.2 g k' rfl;refine az fun zG=> ?_;obtain⟨cl,v,c1,c2,c3⟩:=h.Cq hk;refine zG ?_;refine az fun zG=> ?_;obtain⟨i,j,xs,rfl,⟨a,q,c,l⟩,_⟩:=id c3;refine zG ?_;unfold l8;lcg_off;refine Ok.qg c1 (by exact Cx hk) (by rw [l9];exact c2) ?_;lcg_off;exact⟨⟨_,_,rfl⟩,rfl,by rw [Cr hp,jb];rfl⟩
 rintro zs _ ⟨rfl,rfl⟩;rw [eW,hF];lcg_off;exact⟨_,rfl,bc _ _,gA _,.new _ _⟩
theorem Ow(h:LS Cs mk m sh cs mo ro L)(hC:xK Cs mk){r0:Nat×Int×Nat}{rt:List (Nat×Int×Nat)}(h0:xJ Cs (ck L)=r0::rt)(ox:r0∈ck L){z7:Option MV}:
  bL (AM.1 [a0,some (.obj sh),some (.obj cs),some (.obj mo),some (.obj ro),z5,z6,z7,none,none,none,none] m) fun f fr m'=>f= .next/\∃cv ow,fr= [a0,some (.obj sh),some (.obj cs),some (.obj mo),some (.obj ro),z5,z6,z7,some cv,some (.obj ow),none,none]/\eZ m' cv (Cs r0.2.2)/\ow<m'.n/\m'.ob ow= .dict ((ck L).foldl (eP Cs (Cs r0.2.2).gS (eU (Cs r0.2.2))) [])/\Ev m m':=by
 refine bL.cps fun Q hq=> ?_;dsimp only [AM]
 set_option tactic.hygienic true in lcg_off
 refine Ok.kl ro (L.map jL) (fun fr=>∃z1 z2,fr= [z1,z2]) (fun k zs m1=>m1=m/\zs=(L.take k).map fun p=> .obj p.1) (by have:=h.len;rw [eW];exact L0 this) ?_ ⟨_,_,rfl⟩ ?_ ?_ ?_
 ·lcg_off;exact⟨rfl,rfl,rfl⟩
 ·rintro k zs _ ⟨rfl,_⟩;exact h.ro.1
 ·intro k v zs fr _ e gQ lM U hj;refine az fun zG=> ?_;obtain⟨rfl,rfl⟩:=gQ;obtain⟨z1,z2,rfl⟩:=lM;refine zG ?_;rw [ja,nN] at e;refine az fun zG=> ?_;obtain⟨⟨d,tl⟩,hp,rfl⟩:=e;refine zG ?_;unfold jL;lcg_off;exact⟨⟨_,_,rfl⟩,rfl,by rw [cW hp,jb];rfl⟩
 set_option tactic.hygienic true in rintro zs _ ⟨rfl,rfl⟩
 rename_i m;rw [eW,hF];have x1:=Ext.new m (.list (L.map fun p=> .obj p.1));have h1:=h.keep (.of x1);lcg_off;refine(yz h1.sh (bc _ _) (gA _) h1.dk (by have:=h.len;exact Rg this) hC.r h0 ox).mono ?_;intro _ m2 fN;refine az fun zG=> ?_;obtain⟨cv,ow,rfl,c1,c2,c3,c4,x2⟩:=fN;refine zG ?_;lcg_off;exact⟨_,_,rfl,c1,c3,c4,(Ev.of x1).trans x2⟩
theorem Ox{fr:av}(he:m.ob eo= .list ((jW Cs (ck L)).map .int))(DL:eo<m.n)(i6:ck L≠ []){a b c d e f g h i j k:Option MV}:
  bL (AO.1 [a,b,c,d,e,f,g,some (.obj eo),h,i,j,k] m) fun ff fr m'=>ff= .next/\fr= [a,b,c,d,e,f,g,some (.obj eo),h,i,j,k]/\Ext m m':=by
 refine bL.cps fun Q hq=> ?_;dsimp only [AO];lcg_off;have x1:=Ext.new m (.list []);refine Ok.IJ ((x1.ob _ DL).trans he) (bc _ _) (fun q=>i6 ?_) ?_
 ·rw [eW] at q;unfold jW at q;rw [eW] at q;exact List.length_eq_zero_iff.mp q
 lcg_off;exact⟨rfl,x1⟩
end
end
section
variable {r0:Nat×Int×Nat}{z7 z8 z9:Option MV}{du:Nat}{es:List (Int×MV)}
section
variable {m:MH}{sh cs mo ro:Nat}{Cs:Nat->ea}{mk:Nat->Nat}{L:LD}{a0 z5 z6:Option MV}
theorem Oy{eo:Nat}(h:LS Cs mk m sh cs mo ro L)(he:m.ob eo= .list ((jW Cs (ck L)).map .int)){rt:List (Nat×Int×Nat)}(h0:xJ Cs (ck L)=r0::rt)(ox:r0∈ck L){z10 z11:Option MV}:
  bL (GI.1 [a0,some (.obj sh),some (.obj cs),some (.obj mo),some (.obj ro),z5,z6,some (.obj eo),z8,z9,z10,z11] m) fun f fr m'=>f= .next/\fr= [a0,some (.obj sh),some (.obj cs),some (.obj mo),some (.obj ro),z5,z6,some (.obj eo),z8,z9,some (.int r0.2.2),z11]/\Ext m m':=by
 refine bL.cps fun Q hq=> ?_;obtain⟨e0,er,hee⟩:∃e0 er,jW Cs (ck L)=e0::er:=by
  cases q:jW Cs (ck L) with
  |nil=>
   have:=congrArg List.length q;unfold jW at this;rw [eW] at this;have:=List.length_eq_zero_iff.mp this;rw [this] at ox;cases ox
  |cons a r=>exact⟨a,r,rfl⟩
 have U8:m.ob eo= .list ((e0::er).map .int):=by rw [<- hee];exact he
 refine bL.use (Ok.bind ?_);refine Ok.kl ro (L.map jL) (fun fr=>∃z1 z2,fr= [z1,z2,some (.obj eo),some (.obj cs)]) (fun k zs m1=>m1=m/\zs=((ck (L.take k)).filter fun r=>(Cs r.2.2).ed==iW (jW Cs (ck L))).map fun r=> .int (r.2.2:Int)) (by have:=h.len;rw [eW];exact L0 this) ?_ ⟨_,_,rfl⟩ ?_ ?_ ?_
 ·lcg_off;exact⟨rfl,rfl,rfl⟩
 ·rintro k zs _ ⟨rfl,_⟩;exact h.ro.1
 ·intro k v zs fr _ e gQ lM U hj;refine az fun zG=> ?_;obtain⟨rfl,rfl⟩:=gQ;obtain⟨z1,z2,rfl⟩:=lM;refine zG ?_;rw [ja,nN] at e;refine az fun zG=> ?_;obtain⟨⟨d,tl⟩,hp,rfl⟩:=e;refine zG ?_;have D:=h.dk _ (jC hp);unfold jL;cases tl with
  |none=>
   unfold l8;lcg_off;exact⟨⟨_,_,rfl⟩,rfl,by rw [gI hp,List.append_nil]⟩
  |some q=>
   obtain⟨g,k'⟩:=q;obtain⟨hg,hk⟩:=D.2 g k' rfl;refine az fun zG=> ?_;obtain⟨cl,v,c1,c2,c3⟩:=h.Cq hk;refine zG ?_;refine az fun zG=> ?_;obtain⟨i,j,xs,rfl,⟨a,q,c,l⟩,_⟩:=id c3;refine zG ?_;unfold l8;lcg_off;refine Ok.qg c1 (by exact Cx hk) (by rw [l9];exact c2) ?_;lcg_off;refine Ok.Tt U8 ?_;rw [<- hee]
   by_cases hq:(Cs k').ed=iW (jW Cs (ck L))
   ·refine Ok.wQ hq ?_;lcg_off;exact⟨⟨_,_,rfl⟩,rfl,by rw [gI hp,List.filter_append,jb,List.filter_cons_of_pos (by rw [hq];exact beq_self_eq_true _)];rfl⟩
   ·refine Ok.Am hq ?_;lcg_off;exact⟨⟨_,_,rfl⟩,rfl,by rw [gI hp,List.filter_append,jb,List.filter_cons_of_neg (by rw [beq_iff_eq];exact hq)];exact(List.append_nil _).symm⟩
 set_option tactic.hygienic true in rintro zs _ ⟨rfl,rfl⟩
 rename_i m;rw [eW,hF];change Ok _ _;have e1:((ck L).filter fun r=>(Cs r.2.2).ed==iW (jW Cs (ck L)))=r0::rt:=h0;rw [e1];lcg_off;refine Ok.qg (bc _ _) (bR rfl) (v:= .int (r0.2.2:Int)) rfl ?_;lcg_off;exact⟨rfl,.new _ _⟩
theorem Oz{a b c d e f g h i j k l:Option MV}:
  bL (AP.1 [a,b,c,d,e,f,g,h,i,j,k,l] m) fun ff fr m'=>ff= .next/\fr= [a,b,c,d,e,f,g,h,i,j,k,some (.obj m.n)]/\m'=m.new (.dict []):=by
 refine bL.cps fun Q hq=> ?_;dsimp only [AP];lcg_off;refine Ok.of (a:= .obj m.n) (m':=m.new (.dict [])) rfl ?_;lcg_off;exact⟨rfl,rfl⟩
theorem GL{n:Nat}{g:Int}:(fJ n).any (· ==g)=decide (10<=g/\g<10+n):=by
 rw [Bool.eq_iff_iff,List.any_eq_true,decide_eq_true_eq];unfold fJ
 constructor
 ·intro z0p;refine az fun zG=> ?_;obtain⟨x,hx,e⟩:=z0p;refine zG ?_;rw [List.mem_map] at hx;refine az fun zG=> ?_;obtain⟨k,hk,rfl⟩:=hx;refine zG ?_;have:=List.mem_range.mp hk;rw [beq_iff_eq] at e;exact WY e this
 ·intro hx;refine⟨g,List.mem_map.mpr ⟨(g-10).toNat,List.mem_range.mpr (by exact WZ hx),by exact W0 hx⟩,by simp⟩
theorem OA{k:Nat}(hk:k<3):(VP mk)[k]? =some (.int (mk k)):=by
 have:k=0\/k=1\/k=2:=by exact WC hk
 rcases this with rfl|rfl|rfl <;> rfl
theorem Ln{m0:MH}(h:LS Cs mk m0 sh cs mo ro L)(hC:xK Cs mk)(hm:Ev m0 m)(VQ:m0.n<=du)(C8:du<m.n)(hd:m.ob du= .dict [])(ox:r0.2.2<3):
  bL (w7.1 [a0,some (.obj sh),some (.obj cs),some (.obj mo),some (.obj ro),z5,z6,z7,z8,z9,some (.int r0.2.2),some (.obj du)] m) fun f fr m'=>f= .next/\(∃z5 z6,fr= [a0,some (.obj sh),some (.obj cs),some (.obj mo),some (.obj ro),z5,z6,z7,z8,z9,some (.int r0.2.2),some (.obj du)])/\
   m'.ob du= .dict ((ck L).foldl (eP Cs (Cs r0.2.2).gS (eU (Cs r0.2.2))) [])/\Ev m0 m'/\du<m'.n/\(∀t,t<m.n->t≠du->m'.ob t=m.ob t)/\m.n<=m'.n:=by
 refine bL.cps fun Q hq=> ?_;have hD:=hC.d _ ox;rw [hD] at hq;dsimp only [w7];refine bL.forL ro (L.map jL) (fun k fr m1=>(∃z5 z6,fr= [a0,some (.obj sh),some (.obj cs),some (.obj mo),some (.obj ro),z5,z6,z7,z8,z9,some (.int r0.2.2),some (.obj du)])/\Ev m0 m1/\du<m1.n/\m1.ob du= .dict ((ck (L.take k)).foldl (eP Cs (Cs r0.2.2).gS (fJ (mk r0.2.2))) [])/\(∀t,t<m.n->t≠du->m1.ob t=m.ob t)/\m.n<=m1.n) ?_ ?_ ?_ ?_
 ·lcg_off;exact⟨rfl,⟨_,_,rfl⟩,hm,C8,hd,fun O O O=>rfl,dU _⟩
 ·intro k fr m1 mM;refine az fun zG=> ?_;obtain⟨_,x1,_⟩:=mM;refine zG ?_;exact x1.list h.ro.1 h.ro.2
 ·intro k v fr m1 e jJ J hj;refine az fun zG=> ?_;obtain⟨⟨z5,z6,rfl⟩,x1,mN,o1,ht,D7⟩:=jJ;refine zG ?_;rw [ja,nN] at e;refine az fun zG=> ?_;obtain⟨⟨d,tl⟩,hp,rfl⟩:=e;refine zG ?_;have h1:=h.keep x1;have D:=h1.dk _ (jC hp);have hlen:=sS (Cs:=Cs) (G:=(Cs r0.2.2).gS) (D:=fJ (mk r0.2.2)) (ck (L.take k)) [];have AY:=ou (L.take k);have Pw:(L.take k).length<=6:=by have:=h.len;rw [ig];exact W2 this
  generalize FL:(ck (L.take k)).foldl (eP Cs (Cs r0.2.2).gS (fJ (mk r0.2.2))) []=acc at o1 hlen;rw [gI hp,List.foldl_append,FL] at hj;unfold jL;cases tl with
  |none=>
   unfold l8;lcg_off;exact⟨⟨_,_,rfl⟩,x1,mN,o1,ht,D7⟩
  |some q=>
   obtain⟨g,k'⟩:=q;obtain⟨hg,hk⟩:=D.2 g k' rfl;refine az fun zG=> ?_;obtain⟨cl,v,c1,c2,c3⟩:=h1.Cq hk;refine zG ?_;refine az fun zG=> ?_;obtain⟨cl0,v0,VR,VS,VT⟩:=h1.Cq ox;refine zG ?_;refine az fun zG=> ?_;obtain⟨i,j,xs,rfl,⟨a,q,c,l⟩,_⟩:=id c3;refine zG ?_;refine az fun zG=> ?_;obtain⟨i0,j0,VD,rfl,⟨a0',q0,c0,l0⟩,_⟩:=id VT;refine zG ?_;have step:List.foldl (eP Cs (Cs r0.2.2).gS (fJ (mk r0.2.2))) acc [(d,g,k')]=eP Cs (Cs r0.2.2).gS (fJ (mk r0.2.2)) acc (d,g,k'):=rfl;rw [step] at hj;unfold l8;lcg_off;refine Ok.ind o1 ?_;cases vf:lA g acc with
   |some y=>
    simp only [Option.isSome_some];lcg_off;refine⟨⟨_,_,rfl⟩,x1,mN, ?_,ht,D7⟩;rw [o1];unfold eP;rw [if_neg (fun hh=>by rw [vf] at hh;exact absurd hh.2 (by simp))]
   |none=>
    simp only [Option.isSome_none];lcg_off;refine Ok.qg c1 (by exact Cx hk) (by rw [l9];exact c2) ?_;lcg_off;refine Ok.qg VR (by exact Cx ox) (by rw [l9];exact VS) ?_;lcg_off
    by_cases QY:(Cs k').gS=(Cs r0.2.2).gS
    ·refine Ok.wQ QY ?_;lcg_off;refine Ok.qg h1.mo.1 (by exact Cx ox) (by rw [l9];exact OA ox) ?_;lcg_off
     by_cases yW:g<10+(mk r0.2.2:Int)
     ·lcg_off;refine Ok.Tu o1 ⟨by simp at hlen;exact W3 AY Pw hlen,mN⟩ ?_;lcg_off;refine⟨⟨_,_,rfl⟩,x1.pb VQ,mN, ?_,fun t h1 h2=>by rw [cj h2];exact ht t h1 h2,D7⟩;rw [fL,Cp vf];unfold eP;rw [if_pos ⟨⟨QY,by rw [GL,decide_eq_true_eq];exact⟨hg.1,yW⟩⟩,vf⟩]
     ·lcg_off;refine⟨⟨_,_,rfl⟩,x1,mN, ?_,ht,D7⟩;rw [o1];unfold eP;rw [if_neg (fun hh=>by have:=hh.1.2;rw [GL,decide_eq_true_eq] at this;exact yW this.2)]
    ·refine Ok.Am QY ?_;lcg_off;refine⟨⟨_,_,rfl⟩,x1,mN, ?_,ht,D7⟩;rw [o1];unfold eP;rw [if_neg (fun hh=>QY hh.1.1)]
 ·intro fr m1 fN;refine az fun zG=> ?_;obtain⟨hz,x1,mN,o1,ht,D7⟩:=fN;refine zG ?_;rw [eW,hF] at o1;lcg_off;exact⟨hz,o1,x1,mN,ht,D7⟩
theorem Lo(ns:List Int):∃ds,nV (ns.map MV.int)=some ds/\PyData.canLayAll0 ds=true/\PyData.depthAll ds<=0:=mr.of fun x hx=>by
 rw [List.mem_map] at hx;refine az fun zG=> ?_;obtain⟨g,_,rfl⟩:=hx;refine zG ?_;exact Dat.int _ _
theorem Ok.afd{QB:Bool->MH->Prop}{i j:Nat}{ns:List Int}(hi:m.ob i= .list (ns.map .int))(hj:m.ob j= .list (ns.map .int))(q:QB true m):Ok (vA (.obj i) (.obj j) m) QB:=by
 refine az fun zG=> ?_;obtain⟨ds,e,c,l⟩:=Lo ns;refine zG ?_;have pA:pH m i=some (.list ds):=(cC hi).trans (aV e);have Fh:pH m j=some (.list ds):=(cC hj).trans (aV e);have hc:(PyData.list ds).canLay0=true:=by simpa only [PyData.canLay0] using c
 have hd:(PyData.list ds).depth<=10:=by simp only [PyData.depth];exact W4 l
 have hE:zW (some (.list ds)) (some (.list ds))=some true:=by
  refine(if_pos ?_).trans (congrArg some (SeqAt.eqv_refl _ hc));rw [hc,decide_eq_true (by rw [Nat.min_self];exact hd)];rfl
 exact .of (a:=true) (aV ((cC hi).trans ((cC hj).trans ((if_pos rfl).trans (by rw [pA,Fh];exact hE))))) q
theorem Ok.sorted{Q:MV->MH->Prop}{d:Nat}(o:m.ob d= .dict es)(h:es.length<64)(q:Q (.obj m.n) (m.new (.list ((sortI (es.map (·.1))).map .int)))):Ok (z_ (.obj d) m) Q:= .of ((Aj o).trans (if_pos h)) q
theorem Lp{ow:Nat}{cv:MV}(h:LS Cs mk m sh cs mo ro L)(hC:xK Cs mk)(ox:r0.2.2<3)(Oi:eZ m cv (Cs r0.2.2))(C8:du<m.n)(hd:m.ob du= .dict es)(hol:ow<m.n)(ho:m.ob ow= .dict es)(BF:es.length<64):
  bL (w8.1 [a0,some (.obj sh),some (.obj cs),some (.obj mo),some (.obj ro),z5,z6,z7,some cv,some (.obj ow),some (.int r0.2.2),some (.obj du)] m) fun f fr m'=>f= .next/\fr= [a0,some (.obj sh),some (.obj cs),some (.obj mo),some (.obj ro),z5,z6,z7,some cv,some (.obj ow),some (.int r0.2.2),some (.obj du)]/\Ext m m':=by
 refine bL.cps fun Q hq=> ?_;refine az fun zG=> ?_;obtain⟨cl0,v0,VR,VS,VT⟩:=h.Cq ox;refine zG ?_;have hR:=(hC.r _ ox).toConfOK;refine az fun zG=> ?_;obtain⟨i,j,xs,rfl,⟨a,q,c,l⟩,_⟩:=id Oi;refine zG ?_;obtain⟨_,fZ⟩:=h.cs;dsimp only [w8];lcg_off;refine(jz Oi hR.sz.1 hR.sz.2).q1 ?_;intro m1 x1;have Fv:cs<m.n:=by obtain⟨cl,d,e,f,g⟩:=h.cs;exact e
 have c31:=VT.keep (.of x1);refine az fun zG=> ?_;obtain⟨i0,j0,VD,rfl,⟨a0',q0,c0,l0⟩,_⟩:=id c31;refine zG ?_;lcg_off;refine Ok.qg ((x1.ob _ Fv).trans VR) (by exact Cx ox) (by rw [l9];exact VS) ?_;lcg_off;refine(jz c31 hR.sz.1 hR.sz.2).q1 ?_;intro m2 x2;lcg_off;have GN:=x1.trans x2;refine Ok.eqt (AR (hC.s _ ox)) (bR rfl) ?_;lcg_off;refine Ok.sorted ((GN.ob _ hol).trans ho) BF ?_;have x3:=Ext.new m2 (.list ((sortI (es.map (·.1))).map .int));have o3:=bc m2 (.list ((sortI (es.map (·.1))).map .int));have n3:m2.n<(m2.new (.list ((sortI (es.map (·.1))).map .int))).n:=gA _;generalize m2.new (.list ((sortI (es.map (·.1))).map .int))=m3 at x3 o3 n3;lcg_off;refine Ok.sorted (((GN.trans x3).ob _ C8).trans hd) BF ?_;have x4:=Ext.new m3 (.list ((sortI (es.map (·.1))).map .int));have o4:=bc m3 (.list ((sortI (es.map (·.1))).map .int));generalize m3.new (.list ((sortI (es.map (·.1))).map .int))=m4 at x4 o4;lcg_off;refine Ok.afd ((x4.ob _ n3).trans o3) o4 ?_;lcg_off;exact⟨rfl,(GN.trans x3).trans x4⟩
end
end
section
theorem uM{prog:Program}{w:World}{g:Heap}{A:Around}{s:Shared}{ρ:Nat->Addr}{m:MH}{n:Nat}{f:Addr}{o:Obj}{fd:FuncData}{body:List Stmt}{ps rest gs:List Str}{ys:List MV}{us:List Value}{args:Args}{R:Result->Shared->Prop}
  (ho:s.heap.get? f=some o)(hd:o.data= .func fd)(hb:fd.body= .stmts body)(qn:s.heap.CodeRec fd.code fd.qualname)(zk:fd.globals=mainGlobals)(zl:fd.builtins=builtinsNs)(u4:fd.closure= [])
  (qr:BindsTo s fd args (ps.zip us))(vh:BU ⟨ps++rest,gs,fd.scope.names⟩ fd.scope=true)(hl:ps.length=us.length)
  (hA:dj (n+1) A)(S:OK prog w g s ρ m)(r:bI ρ m.n s.heap ys us)
  (hW:∀s₁,OK prog w g s₁ ρ m->dh fo s ρ m s₁ ρ m->Sub s.heap s₁.heap->dw ⟨ps++rest,gs,fd.scope.names⟩ (callEnvC fd s.heap.objs.size f) (ys.map some++List.replicate rest.length none) g s₁ ρ m.n->(∀a,Own (callEnvC fd s.heap.objs.size f) a->s.heap.get? a=none)->
   ay s₁ (fun e s'=>ay s' (fun e' kL=>R (.error e') kL) (A.deeper (callEnvC fd s.heap.objs.size f)) (model prog w) (fun O kL=>R (.error e) kL) (leaving (callEnvC fd s.heap.objs.size f) e)) (A.deeper (callEnvC fd s.heap.objs.size f)) (model prog w) (fun fl s'=>R (.ok (.ret (match fl with| .ret v=>v|_=> .none))) s') (execs body (callEnvC fd s.heap.objs.size f))):
  cQ (model prog w) A (.call (.ref f) args) R s:=by
 simp only [BU,Bool.and_eq_true,beq_iff_eq,List.all_eq_true,Bool.not_eq_true',decide_eq_true_eq,Bool.or_eq_true] at vh;obtain⟨hk,Hn,yX,zm,MD,HK,Mx,My⟩:=vh;have rT:∀ {x:Str} {n:Nat},fd.scope.names.lookup x=some .cell->((cellsFrom n fd.scope.names []).lookup x).isSome=true:=fun h=>cellsFrom_some (.inl (lookup_mem h));have UH:∀x∈ps,fd.scope.names.lookup x=some .local\/fd.scope.names.lookup x=some .cell:=fun x hx=>zm x (List.mem_append_left _ hx);refine oO (by have:=hA.1;exact WE this) ho hd S.now.nolimit qn hb qr u4 (fun x hx=> ?_) (fun s₁ C=> ?_) Hn yX hk
 ·rcases UH x.1 (List.of_mem_zip hx).1 with h|h
  ·exact .inl h
  ·exact .inr ⟨h,rT h⟩
 generalize qY:callEnvC fd s.heap.objs.size f=env at C ⊢;have zo:env.scope=fd.scope:=by rw [<- qY];rfl
 have fZ:env.cells=cellsFrom (s.heap.objs.size+1) fd.scope.names []:=by rw [<- qY];rfl
 have hL:env.locals=s.heap.objs.size:=by rw [<- qY];rfl
 have kN:∀x,env.kindOf x=fd.scope.names.lookup x:=fun x=>by unfold Env.kindOf;rw [zo]
 obtain⟨h₁,tk,rX⟩:=C.toInCall.same;have wi:=C.toInCall.keep;have S1:OK prog w g s₁ ρ m:=S.grow wi;have V1:dh fo s ρ m s₁ ρ m:= .grow wi (by rw [rX]) (by rw [rX]);have nS:∀a,Own env a->s.heap.get? a=none:=fun a ha=>by
  rcases ha with rfl|⟨x,hx⟩
  ·rw [hL];exact cA _
  ·have:=C.above x a (lookup_mem hx);rw [hL] at this;cases q:s.heap.get? a with
   |none=>rfl
   |some o=>exact absurd (Heap.lt_size q) (Nat.not_lt.mpr (Nat.le_of_lt this))
 have Fb:ps.Nodup:=(List.nodup_append.mp HK).1;have Fc:∀ {i:Nat} {x:Str},(ps++rest)[i]? =some x->(∃y u,ps[i]? =some x/\ys[i]? =some y/\us[i]? =some u/\a_ ρ m.n s₁.heap y u/\slot (ys.map some++List.replicate rest.length none) i=some y)\/slot (ys.map some++List.replicate rest.length none) i=none:=fun {i x} hi=>by
  have kf:ys.length=us.length:=r.length
  by_cases h:i<ps.length
  ·left
   rw [List.getElem?_append_left h] at hi;have hy:i<ys.length:=by exact WG hl kf h
   obtain⟨u,hu,ru⟩:=r.get (iq hy);refine⟨ys[i],u,hi,iq hy,hu,ru.mono V1.mono, ?_⟩;unfold slot;rw [List.getElem?_append_left (by simpa using hy),List.getElem?_map,List.getElem?_eq_getElem hy];rfl
  ·right
   unfold slot;rw [List.getElem?_append_right (by rw [eW];exact WH hl kf h),List.getElem?_replicate]
   split
   ·rename_i q;split at q <;> first|(cases q;rfl)|cases q
   ·rfl
 have F1:dw ⟨ps++rest,gs,fd.scope.names⟩ env (ys.map some++List.replicate rest.length none) g s₁ ρ m.n:=by
  refine⟨⟨by rw [zo];exact hk,by rw [zo],by rw [<- qY];exact zk,by rw [<- qY];exact zl,zm,MD,HK,Mx,My⟩,⟨_,C.toInCall.ns,fun i x hi C7=> ?_⟩,fun i x hi C7=> ?_,fun a ha=> ?_,fun x y a hx hy=> ?_⟩
  ·rcases Fc hi with⟨y,u,q1,q2,q3,q4,q5⟩|q
   ·rw [q5];exact⟨u,uo Fb q1 q3 ((kN x).trans C7),q4⟩
   ·rw [q];trivial
  ·obtain⟨a,ha⟩:=Option.isSome_iff_exists.mp (rT (n:=s.heap.objs.size+1) C7);rw [<- fZ] at ha;refine⟨a,_,ha,C.cell x a ha, ?_⟩;rcases Fc hi with⟨y,u,q1,q2,q3,q4,q5⟩|q
   ·rw [q5];refine⟨u,uq Fb q1 q3 ?_,q4⟩;rw [kN x];rw [show fd.scope.names.lookup x=some .cell from C7]
    decide
   ·rw [q];trivial
  ·have h0:=nS a ha;refine⟨S.pv h0,S.lD h0, ?_⟩;rcases ha with rfl|⟨x,hx⟩
   ·obtain⟨o,es,ep,q,_⟩:=C.toInCall.ns;exact⟨o,q⟩
   ·obtain⟨o,q,_⟩:=C.cell x a hx;exact⟨o,q⟩
  ·exact rV C.apart (lookup_mem hx) (lookup_mem hy)
 subst qY;exact hW s₁ S1 V1 wi F1 nS
end
section
variable {x:Str}{a l:Addr}{vs:List Value}{ep:Nat}{xs:List MV}
def Ef(prog:Program)(w:World)(g:Heap)(n:Nat)(sg:Sg)(st:Stmt)(c:SM):Prop:=
 ∀A env fr s ρ m,dj n A->OK prog w g s ρ m->dw sg env fr g s ρ m.n->eY prog w g A sg env (exec st env) (c fr m) s ρ m
section
variable {prog:Program}{w:World}{g:Heap}{n:Nat}{sg:Sg}
theorem fY.toG{st:Stmt}{c:SM}(h:fY n sg st c):Ef prog w g n sg st c:=fun A env fr s ρ m=>h prog w A g env fr s ρ m
theorem BG(i:Nat){p p':Pos}{e:Expr}{c:av->MM MV}(hk:sg.ks[i]? =some x)(h:pw prog w g n sg e c)(hc:lR e=true):Ef prog w g n sg (.Assign [.Name x p] e p') (SM.use c (SM.put i)):=by
 intro A env fr s ρ m hA S F;refine .use fun v m1 e1=>lC ((h A _ _ _ _ _ hA S F).step e1 fun a s1 ρ1 S1 V1 r1=> ?_) (ky hc);exact aj<|nv i S1 (F.dQ V1) hk r1 fun s2 S2 V2 O F2=>⟨ρ1,S2,V1.weak.comp V2,.next,F2⟩
noncomputable def refOf:Value->Option Addr
 | .ref a=>some a
 |_=>none
theorem xM{u:Value}(e:refOf u=some a):u= .ref a:=by
 cases u with
 |ref b=>exact congrArg _ (d9 e)
 |_=>exact bZ e
noncomputable def GO(fr:av)(i:Nat):Option Addr:=(slot fr i).bind fun x=>x.PD.bind refOf
theorem qU{fr:av}{i:Nat}(e:GO fr i=some a):slot fr i=some (.fn (.ref a)):=by
 obtain⟨x,h1,e1⟩:=bj e;obtain⟨u,h2,e2⟩:=bj e1;cases x with
 |fn v=>rw [h1,xM ((congrArg refOf (d9 h2)).trans e2)]
 |_=>exact bZ h2
noncomputable def OB(l:Addr)(xs:List MV):av->MM MV:=fun fr m=>(GO fr 0).bind fun l'=>if l'=l then some (.obj m.n,m.new (.list (c8 xs none (some 63)))) else none
theorem aff{p0 p1 p2 p3:Pos}{k:Nat}(hk:sg.ks[0]? =some x)(hg:g.get? l=some (fP vs ep))(hv:∀ρ n h,bI ρ n h xs vs)(hz:xs.length<=100000):
  pw prog w g n sg (.Subscript (.Name x p0) (.Slice none (some (.Constant (.int 63) k p1)) none p2) p3) (OB l xs):=by
 intro A env fr s ρ m hA S F;refine .opt fun l' hs=> .ite fun hl=> ?_;subst hl;have hs:=qU hs;have e1:rd fr 0 m=some (.fn (.ref l'),m):=by unfold rd;rw [hs]
 refine jd ((dJ (n:=n) (p:=p0) 0 hk _ _ A _ _ _ _ _ _ hA S F).step e1 fun a s1 ρ1 S1 V1 r1=> ?_);obtain rfl:=r1.rr rfl;refine wG (fM (n:=n)) (b9 (n:=n) (ag (k:=k) (p:=p1))) hA S1 (F.dQ V1) (x:= .none) (y:= .int 63) rfl rfl fun ya za sl s3 ρ3 S3 V3 r2 r3 zS=> ?_;have V:=V1.comp V3;have ho:=S3.sub _ _ hg;have hL:s3.heap.IsList l' vs.toArray:=⟨_,ho,rfl,_,rfl⟩;have rs:=hv ρ3 m.n s3.heap;refine zP (id:="list.__getitem__") hL.typeIs slot_list_getitem.lookup (aj (wpAny_getItem_list_slice hL zS (r2.part rfl) (r3.part rfl) .none (fun e=>nomatch e) ?_ (by rw [fX, <- rs.length,sizeLine_eq];exact Hb hz))) rfl;rw [slicePick_plain];refine td (K:=fun v s'=>lx prog w g fo a_ s ρ m (.obj m.n) (m.new (.list (c8 xs none (some 63)))) v s') (mo:= .list (c8 xs none (some 63))) (t:=s3.toks) S3 rfl (fun M=>⟨c8 vs none (some 63),0, ?_,(rs.cut none (some 63)).mono M⟩) fun ρ' s' S' V'=>⟨ρ',S',V.comp V',.obj (gA _)⟩;simp only [c8,List.size_toArray]
theorem afg(hg:g.get? l=some (fP vs ep))(hv:∀ρ n h,bI ρ n h xs vs)(hz:xs.length<=100000):Ef prog w g n mQ (fe 0) (SM.use (OB l xs) (SM.put 0)):=
 BG (x:="script") 0 rfl (aff (x:="script") rfl hg hv hz) rfl
end
end
section
variable {kvs:List (Int×Value)}
section
variable {prog:Program}{w:World}{g:Heap}{n:Nat}{sg:Sg}
noncomputable def GP(kvs:List (Int×Value)):Src:=⟨fun O=>some kvs.length,fun k O=>kvs[k]?.map fun p=> .int p.1⟩
noncomputable def ciD(i:Nat)(d:Addr)(kvs:List (Int×Value)):av->MM Src:=fun fr m=>(GO fr i).bind fun d'=>if d'=d then some (GP kvs,m) else none
theorem I5{aU:Expr}{x:Str}{p:Pos}{i:Nat}{d:Addr}{ep:Nat}(hk:sg.ks[i]? =some x)(hd:g.DictAt (intKind prog w) d kvs ep)(sm:(d==sysModules)=false):
  CU prog w g n sg aU (.Name x p) (ciD i d kvs):=by
 intro A env fr s ρ m hA S F src m' e N hN K q;obtain⟨d',hs,e⟩:=bj e;have hs:=qU hs;obtain⟨rfl,q0⟩:=kz e;cases q0;have e1:rd fr i m=some (.fn (.ref d'),m):=by unfold rd;rw [hs]
 refine(dJ (n:=n) (p:=p) i hk _ _ A _ _ _ _ _ _ hA S F).step e1 fun a s1 ρ1 S1 V1 r1=> ?_;obtain rfl:=r1.rr rfl;have Ku:s1.heap.DictAt (intKind prog w) d' kvs ep:=hd.keep S1.sub;refine aj (wpAny_pyIter_dict sm Ku ?_);have hNk:N=kvs.length:=by cases hN;rfl
 subst hNk;have rU:Sub s1.heap (s1.heap.push {cls:= .type "dict_keyiterator",data:= .fields #[.ref d',.int 0 0,.int kvs.length 0,.int ep 0]}):=fun a o e=>gT _ e;have nS:=cA s1.heap;have rD:∀ {k:Nat} {h:Heap},h.IsKeyIter s1.heap.objs.size d' k kvs.length ep->∃o,h.get? s1.heap.objs.size=some o/\¬l_ o:=fun⟨o,e,c,dd⟩=>⟨o,e,iu c rfl rfl⟩;refine q _ _ ρ1 (fun a=>a=s1.heap.objs.size) (fun k h=>h.IsKeyIter s1.heap.objs.size d' k kvs.length ep) (fun k h u=>h.IsKeyIter s1.heap.objs.size d' k kvs.length ep) (S1.grow rU) (V1.comp (.grow rU rfl rfl)) (fun a ha=>ha▸⟨V1.old nS,S1.lD nS⟩) ⟨_,iR _ rfl,rfl,rfl⟩ ?_;refine⟨fun k h h' ⟨o,e,r⟩ hk=>⟨o,hk _ _ rfl e,r⟩,fun k h st a ha=>ha▸rD st,fun k h u st a ha=>ha▸rD st,fun s2 ρ2 m2 k v K2 HT S2 h4 h5 h6 h7 st H qq=> ?_,fun s2 ρ2 m2 K2 S2 h4 h5 h6 st H qq=> ?_,fun k s2 K2 st hK=> ?_,fun k s2 u K2 st hK=> ?_⟩
 ·have Lq:s2.heap.DictAt (intKind prog w) d' kvs ep:=hd.keep S2.sub;obtain⟨⟨key,val⟩,OC⟩:∃kv,kvs[k]? =some kv:=⟨_,iq HT⟩;have hv:v= .int key:=by
   have:(GP kvs).item k m2=some (.int key):=by show Option.map _ (kvs[k]?)=_;rw [OC];rfl
   rw [h7] at this;injection this
  subst hv;refine aj (wpAny_pyNext_dict_item st Lq OC fun kv h' his hit um=> ?_);obtain⟨t,rfl⟩:=Value.isInt_shape his;exact qq (.int key t) _ ⟨fun a o ha e=>(um.2 a ha).trans e,rfl,rfl⟩ hit (.int _ _)
 ·have Lq:s2.heap.DictAt (intKind prog w) d' kvs ep:=hd.keep S2.sub;exact aj (wpAny_pyNext_dict_end (i:=kvs.length) hA.2.2 st Lq (List.getElem?_eq_none (dU _)) fun h' hx=>qq _ ⟨fun a o ha e=>hx a o ha e,rfl,rfl⟩)
 ·exact aj (wpAny_pyIter_keyiter st hK)
 ·obtain⟨o,e,c,dd⟩:=id st;exact aj (BR e c rfl (hK s2 ⟨fun O O O e=>e,rfl,rfl⟩ st))
noncomputable def ceD(ow du:Addr)(kvs:List (Int×Value)):av->MM MV:=fun fr m=>(slot fr 0).bind fun x=>x.int?.bind fun k=>(GO fr 1).bind fun o=>(GO fr 2).bind fun d=>(valueAt kvs k).bind fun v=>(refOf v).bind fun a=>if o=ow/\d=du then some (.bool true,m) else none
theorem Lr{xn xo xd:Str}{po pd pn pn' p1 p2 p3:Pos}{ow du:Addr}{QZ Nn:Nat}(h0:sg.ks[0]? =some xn)(h1:sg.ks[1]? =some xo)(h2:sg.ks[2]? =some xd)
  (ho:g.DictAt (intKind prog w) ow kvs QZ)(hd:g.DictAt (intKind prog w) du kvs Nn):
  pw prog w g n sg (.Compare (.Subscript (.Name xo po) (.Name xn pn) p1) [.Is] [.Subscript (.Name xd pd) (.Name xn pn') p2] p3) (ceD ow du kvs):=by
 intro A env fr s ρ m hA S F;refine .opt fun x q0=> .opt fun k hx=> .opt fun o q1=> .opt fun d q2=> .opt fun v ha=> .opt fun a hv=> .ite fun GF=> ?_;obtain rfl:=xM hv;have q1:=qU q1;have q2:=qU q2;obtain⟨rfl,rfl⟩:=GF;have hx:x= .int k:=by cases x with
  |int j=>exact congrArg _ (d9 hx)
  |_=>exact bZ hx
 subst hx;have e0:rd fr 0 m=some (.int k,m):=by unfold rd;rw [q0]
 have e1:rd fr 1 m=some (.fn (.ref o),m):=by unfold rd;rw [q1]
 have e2:rd fr 2 m=some (.fn (.ref d),m):=by unfold rd;rw [q2]
 refine tQ ?_ rfl;refine jd ((dJ (n:=n) (p:=po) 1 h1 _ _ A _ _ _ _ _ _ hA S F).step e1 fun v1 s1 ρ1 S1 V1 r1=> ?_);obtain rfl:=r1.rr rfl;refine(dJ (n:=n) (p:=pn) 0 h0 _ _ A _ _ _ _ _ _ hA S1 (F.dQ V1)).step e0 fun v2 s2 ρ2 S2 V2 r2=> ?_;obtain⟨_,rfl⟩:=r2.iF rfl;have Lq:=(ho.keep S2.sub).dictOf;refine zP Lq.typeIs slot_dict_getitem.lookup (aj (wpAny_getItem_of (knd:=intKind prog w) (k:=k) (by simp [intKind,Value.isInt]) Lq.mapOf ha ?_)) rfl;have S3:OK prog w g {s2 with toks:=s2.toks+1} ρ2 m:=S2.grow fun O O e=>e;have V3:dh fo s2 ρ2 m {s2 with toks:=s2.toks+1} ρ2 m:= .grow (fun O O e=>e) rfl rfl;have OD:=(V1.comp V2).comp V3;refine jd ((dJ (n:=n) (p:=pd) 2 h2 _ _ A _ _ _ _ _ _ hA S3 (F.dQ OD)).step e2 fun v4 s4 ρ4 S4 V4 r4=> ?_);obtain rfl:=r4.rr rfl;refine(dJ (n:=n) (p:=pn') 0 h0 _ _ A _ _ _ _ _ _ hA S4 ((F.dQ OD).dQ V4)).step e0 fun v5 s5 ρ5 S5 V5 r5=> ?_;obtain⟨_,rfl⟩:=r5.iF rfl;have MA:=(hd.keep S5.sub).dictOf;refine zP MA.typeIs slot_dict_getitem.lookup (aj (wpAny_getItem_of (knd:=intKind prog w) (k:=k) (by simp [intKind,Value.isInt]) MA.mapOf ha ?_)) rfl;have S6:OK prog w g {s5 with toks:=s5.toks+1} ρ5 m:=S5.grow fun O O e=>e;have V6:dh fo s5 ρ5 m {s5 with toks:=s5.toks+1} ρ5 m:= .grow (fun O O e=>e) rfl rfl;exact aj (wpAny_is_ref_self ⟨ρ5,S6,((OD.comp V4).comp V5).comp V6,.bool _⟩)
end
end
section
variable {A:Around}{env:Env}{ca:av->MM (List MV)}{f:Value}{pos:Pos}
section
variable {prog:Program}{w:World}{g:Heap}{n:Nat}{sg:Sg}
def I6(prog:Program)(w:World)(g:Heap)(n:Nat)(sg:Sg)(es:List Expr)(c:av->MM (List MV)):Prop:=
 ∀A env fr s ρ m pos,dj n A->OK prog w g s ρ m->dw sg env fr g s ρ m.n->Comes bI s ρ m prog w g A (c fr m) (spliced (backTo pos (starEach es env)))
theorem I7{e:Expr}{c:av->MM MV}(h:pw prog w g n sg e c)(he:∀env,starEach [e] env=(false,eval e env)::starEach [] env):I6 prog w g n sg [e] (AC c (Kc [])):=by
 intro A env fr s ρ m pos hA S F;refine .bind fun x m' e1=>oN ((h A _ _ _ _ _ hA S F).step e1 fun a s1 ρ1 S1 V1 r1=> ?_) (he env);exact(ab (n:=n) _ _ A _ _ fr _ _ _ pos hA S1 (F.dQ V1)).step (m':=m') rfl fun v s2 ρ2 S2 V2 r2=>⟨ρ2,S2,V1.comp V2,.cons (r1.mono V2.mono) r2⟩
theorem Q0{s:Shared}{ρ:Nat->Addr}{m m':MH}{fr:av}{es:List Expr}{xs:List MV}{first:List Value}{K:Value->Shared->Prop}
  (ha:I6 prog w g n sg es ca)(hp:Plain es)(hk:cE f)(hA:dj n A)(S:OK prog w g s ρ m)(F:dw sg env fr g s ρ m.n)(e:ca fr m=some (xs,m'))
  (k:∀vs s' ρ',OK prog w g s' ρ' m'->dh fo s ρ m s' ρ' m'->bI ρ' m'.n s'.heap xs vs->ay s' cX A (model prog w) K (call f (first++vs))):
  ay s cX A (model prog w) K (callWith pos f first (backTo pos (starEach es env)) []):=by
 refine lP (P:=fun h=>(KK w).In h) ?_ (fun h X=>hk prog w h X) ?_
 ·rw [hp.back pos env];simp
 ·have h1:=(ha A _ _ _ _ _ pos hA S F).step e (K:=fun vs s'=>(KK w).In s'.heap/\ay s' cX A (model prog w) K (call f (first++vs))) fun vs s' ρ' S' V' r=>⟨S'.now.X,k vs s' ρ' S' V' r⟩;rw [hp.back pos env] at h1 ⊢;cases es with
  |nil=>exact kg h1
  |cons x es=>exact jF h1
theorem GQ{k:Nat}{id:Str}{p:Pos}{args:List Expr}{cf:List MV->MM MV}(qx:id∈sg.gs)(hv:bF id (.fn f))(hk:cE f)(ha:I6 prog w g n sg args ca)(hp:Plain args)(hf:dX k f cf)(HT:k<=n):
  pw prog w g n sg (.Call (.Name id p) args [] pos) (oG ca cf):=by
 intro A env fr s ρ m hA S F;refine .bind fun xs m1 e1=> .of fun b m' e2=> ?_;refine iE ((bA (n:=n) (p:=p) qx hv _ _ A _ _ fr _ _ _ hA S F).step (m':=m) rfl fun a s1 ρ1 S1 V1 r1=> ?_);obtain rfl:=r1.rr rfl;refine Q0 ha hp hk hA S1 (F.dQ V1) e1 fun vs s2 ρ2 S2 V2 r2=> ?_;exact(hf.less HT).call hA S2 r2 e2 fun v s3 ρ3 S3 V3 r3=>⟨ρ3,S3,(V1.comp V2).comp V3,r3⟩
end
section
variable {prog:Program}{w:World}{g:Heap}
noncomputable def w_(ow du:Addr)(kvs:List (Int×Value)):av->MM MV:=oG (AC (jg (ciD 11 du kvs) 1 [9,11] (SM.put 0) (Kc true) (ceD ow du kvs)) (Kc [])) (so JG)
theorem GR{ow du:Addr}{kvs:List (Int×Value)}{QZ Nn:Nat}(ho:g.DictAt (intKind prog w) ow kvs QZ)(hd:g.DictAt (intKind prog w) du kvs Nn)(sm:(du==sysModules)=false)
  {fr:av}{s:Shared}{ρ:Nat->Addr}{m:MH}(hA:dj 9 A)(S:OK prog w g s ρ m)(F:dw mQ env fr g s ρ m.n){b:MV}{m':MH}(e:w_ ow du kvs fr m=some (b,m')):
  ay s cX A (model prog w) (fun f s'=>∃v,f= .ret v/\lx prog w g fo a_ s ρ m b m' v s') (exec (fe 12) env):=
 p6 (au ((GQ (n:=9) (.tail _ (.tail _ (.tail _ (.tail _ (.tail _ (.tail _ (.tail _ (.head _)))))))) Dg (aG rfl)
  (I7 (xi (own:= ["number"]) (cap:= ["own","due"]) (gs:= []) (idx:= [9,11]) (by decide +kernel) (I5 (i:=11) rfl hd sm) (bB 0 rfl (fun O=>rfl)) c_ (Lr rfl rfl rfl ho hd) (fun O O=>rfl)) (fun O=>rfl)) (fun O=>rfl) DH (Nat.zero_le _) A _ _ _ _ _ hA S F).at e) (fun v s' h=>⟨v,rfl,h⟩) fun O O x=>x)
end
end
section
variable {es:List (Int×MV)}{kvs:List (Int×Value)}{env:Env}{s:Shared}{ρ:Nat->Addr}{m:MH}
section
variable {ρ:Nat->Addr}{n:Nat}{h:Heap}
theorem fi.det(r:fi ρ n h es kvs)(ho:∀p∈es,∃d,p.2= .obj d):kvs=es.map fun p=>(p.1,match p.2 with| .obj d=> .ref (ρ d)|_=> .none):=by
 induction r with
 |nil=>rfl
 |cons a _ ih=>
  obtain⟨d,hx⟩:=ho _ rI;dsimp only at hx;subst hx;cases a;rw [List.map_cons, <- ih fun p hp=>ho p (List.mem_cons_of_mem _ hp)]
theorem Ls{k:Int}{x:MV}(h:(k,x)∈es):∃y,lA k es=some y/\(k,y)∈es:=by
 induction es with
 |nil=>cases h
 |cons a r ih=>
  obtain⟨k',v⟩:=a;rw [uy]
  by_cases hk:k'=k
  ·subst hk;rw [if_pos rfl];exact⟨v,rfl,rI⟩
  ·rw [if_neg hk];rcases List.mem_cons.mp h with q|q
   ·cases q;exact absurd rfl hk
   ·refine az fun zG=> ?_;obtain⟨y,e,hm⟩:=ih q;refine zG ?_;exact⟨y,e,List.mem_cons_of_mem _ hm⟩
end
section
variable {prog:Program}{w:World}{g:Heap}
noncomputable def xN(env:Env):List Addr:=env.locals::env.cells.filterMap fun p=>env.cells.lookup p.1
theorem xb{a:Addr}:a∈xN env ↔ Own env a:=by
 delta xN Own;rw [List.mem_cons,List.mem_filterMap]
 constructor
 ·rintro(h|⟨p,_,h⟩)
  ·exact .inl h
  ·exact .inr ⟨_,h⟩
 ·rintro(h|⟨x,h⟩)
  ·exact .inl h
  ·exact .inr ⟨(x,a),lookup_mem h,h⟩
def RB(ρ:Nat->Addr)(fr mc:av):Prop:=∀i x,slot mc i=some x->∃j,slot fr i=some (.obj j)/\x= .fn (.ref (ρ j))
theorem J7(fr:av):RB ρ fr []:=fun O O e=>bZ e
theorem jX{o:Option MV}{fr r:av}(h:RB ρ fr r):RB ρ (o::fr) (none::r):=fun i x e=>by
 cases i with
 |zero=>exact bZ e
 |succ i=>exact h i x e
theorem GS{j:Nat}{fr r:av}(h:RB ρ fr r):RB ρ (some (.obj j)::fr) (some (.fn (.ref (ρ j)))::r):=fun i x e=>by
 cases i with
 |zero=>exact⟨j,rfl,(d9 e).symm⟩
 |succ i=>exact h i x e
theorem rebase{fr:av}{sg:Sg}(S:OK prog w g s ρ m)(F:dw sg env fr g s ρ m.n)(mc:av)
  (hf:RB ρ fr mc):
  OK prog w (hideAll s.heap (xN env)) s ρ ⟨0,fun O=> .bad⟩/\dw sg env mc (hideAll s.heap (xN env)) s ρ 0:=by
 have afk:∀a o,g.get? a=some o->(hideAll s.heap (xN env)).get? a=some o:=fun a o e=>hideAll_get _ (S.sub a o e) fun hm=>by
  rw [(F.own a (xb.mp hm)).1] at e;cases e
 have sr:∀i x (v:Option Value),slot mc i=some x->y7 ρ m.n s.heap (slot fr i) v->y7 ρ 0 s.heap (some x) v:=fun i x v e r=>by
  refine az fun zG=> ?_;obtain⟨j,e2,rfl⟩:=hf i x e;refine zG ?_;rw [e2] at r;refine az fun zG=> ?_;obtain⟨u,rfl,q⟩:=r;refine zG ?_;cases q;exact⟨_,rfl,.fn _⟩
 refine⟨⟨S.base.keeps afk,fun a o e=>of_hideAll _ e,fun i j hi=>absurd hi (Nat.not_lt_zero _),fun i hi=>absurd hi (Nat.not_lt_zero _),fun i hi=>absurd hi (Nat.not_lt_zero _)⟩, ?_⟩;refine⟨F.ev, ?_,fun i x a b=> ?_,fun a ha=>⟨hideAll_none _ (xb.mpr ha),fun i hi=>absurd hi (Nat.not_lt_zero _),(F.own a ha).2.2⟩,F.ap⟩
 ·refine az fun zG=> ?_;obtain⟨mp,h1,h2⟩:=F.loc;refine zG ?_;refine⟨mp,h1,fun i x a b=> ?_⟩;cases q:slot mc i with
  |none=>trivial
  |some y=>exact sr i y _ q (h2 i x a b)
 ·refine az fun zG=> ?_;obtain⟨c,v,h1,h2,h3⟩:=F.y9 i x a b;refine zG ?_;refine⟨c,v,h1,h2, ?_⟩;cases q:slot mc i with
  |none=>trivial
  |some y=>exact sr i y _ q h3
theorem Eg(k:Nat):boolsOf (List.replicate k (.bool true))=some (List.replicate k true):=by
 induction k with
 |zero=>rfl
 |succ k ih=>rw [List.replicate_succ,List.replicate_succ];exact aV (f:=fun ns=>some (true::ns)) ih
theorem Eh{ow du:Addr}(hz:kvs.length<=1000)(hv:∀p∈kvs,∃a,valueAt kvs p.1=some (.ref a)):
  Ok (w_ ow du kvs [none,none,none,none,none,none,none,none,none,some (.fn (.ref ow)),none,some (.fn (.ref du))] m) fun v m'=>v= .bool true:=by
 unfold w_;lcg_off;refine Ok.comp kvs.length (GP kvs) (fun fr=>∃o,fr= [o,some (.fn (.ref ow)),some (.fn (.ref du))]) (fun k ys m1=>m1=m/\ys=List.replicate k (.bool true)) (by exact lk hz) ?_ ⟨_,rfl⟩ (fun O O O O O=>rfl) ?_ ?_
 ·refine Ok.of (a:=GP kvs) (m':=m) ?_ ⟨rfl,rfl,rfl⟩;show(if du=du then some (GP kvs,m) else none)=_;rw [if_pos rfl]
 ·intro k ys fr _ hk jJ gQ;refine az fun zG=> ?_;obtain⟨rfl,rfl⟩:=jJ;obtain⟨o,rfl⟩:=gQ;refine zG ?_;obtain⟨⟨key,val⟩,OC⟩:∃kv,kvs[k]? =some kv:=⟨_,iq hk⟩;obtain⟨a,ha⟩:=hv _ (jC OC);refine⟨.int key,by show Option.map _ (kvs[k]?)=_;rw [OC];rfl, ?_⟩;lcg_off;refine Ok.of (a:= .bool true) (m':=_) ?_ ⟨⟨_,rfl⟩,rfl,by rw [List.replicate_succ']⟩;show(valueAt kvs key).bind _=_;rw [ha];exact if_pos ⟨rfl,rfl⟩
 set_option tactic.hygienic true in rintro ys _ ⟨rfl,rfl⟩
 set_option tactic.hygienic true in lcg_off
 rename_i mm;refine Ok.of (a:= .bool true) (m':=mm.new (.list (List.replicate kvs.length (.bool true)))) ?_ rfl;refine(cC (bc _ _)).trans ((aV (Eg _)).trans ?_)
 congr 3
 rw [List.all_eq_true];intro x hx;rw [List.eq_of_mem_replicate hx];rfl
theorem Lu{A:Around}{a0 a1 a2 a3 a4 a5 a6 a7 a8 a10:Option MV}{i j:Nat}(hA:dj 9 A)(S:OK prog w g s ρ m)
  (F:dw mQ env [a0,a1,a2,a3,a4,a5,a6,a7,a8,some (.obj i),a10,some (.obj j)] g s ρ m.n)(hi:i<m.n)(hj:j<m.n)(oi:m.ob i= .dict es)(oj:m.ob j= .dict es)(BF:∀p∈es,∃d,p.2= .obj d)(hz:es.length<=1000):
  ay s cX A (model prog w) (fun f s'=>f= .ret (.bool true)/\Sub s.heap s'.heap/\s'.os=s.os/\s'.gens=s.gens) (exec (fe 12) env):=by
 obtain⟨S2,F2⟩:=rebase S F _ (jX (jX (jX (jX (jX (jX (jX (jX (jX (GS (jX (GS (J7 [])))))))))))));refine az fun zG=> ?_;obtain⟨o1,h1,r1⟩:=S.ob i hi;refine zG ?_;refine az fun zG=> ?_;obtain⟨o2,h2,r2⟩:=S.ob j hj;refine zG ?_;rw [oi] at r1;rw [oj] at r2;refine az fun zG=> ?_;obtain⟨c1,_,kv1,d1,q1⟩:=r1;refine zG ?_;refine az fun zG=> ?_;obtain⟨c2,⟨_,sys⟩,Lv,d2,q2⟩:=r2;refine zG ?_;have e1:=q1.det BF;have e2:=q2.det BF;rw [<- e1] at e2;subst e2;have nf:∀ {k:Nat},k<m.n->ρ k∉xN env:=fun {k} hk hm=>(F.own _ (xb.mp hm)).2.1 k hk rfl;have D1:(hideAll s.heap (xN env)).DictOf (intKind prog w) (ρ i) Lv:=Heap.dictOf_iff.mpr ⟨o1,hideAll_get _ h1 (nf hi),d1⟩;have D2:(hideAll s.heap (xN env)).DictOf (intKind prog w) (ρ j) Lv:=Heap.dictOf_iff.mpr ⟨o2,hideAll_get _ h2 (nf hj),d2⟩;obtain⟨QZ,D1⟩:=D1.dictAt;obtain⟨Nn,D2⟩:=D2.dictAt;have hlen:Lv.length=es.length:=by rw [e1,eW]
 have hv:∀p∈Lv,∃a,valueAt Lv p.1=some (.ref a):=fun p hp=>by
  rw [e1,List.mem_map] at hp;refine az fun zG=> ?_;obtain⟨q,hq,rfl⟩:=hp;refine zG ?_;refine az fun zG=> ?_;obtain⟨y,hy,hm⟩:=Ls (k:=q.1) (x:=q.2) hq;refine zG ?_;refine az fun zG=> ?_;obtain⟨v,hv,rv⟩:=q2.lookup hy;refine zG ?_;obtain⟨d,rfl⟩:=BF _ hm;obtain⟨_,rfl⟩:=rv.ik rfl;exact⟨_,hv⟩
 refine az fun zG=> ?_;obtain⟨b,m',e,rfl⟩:=Eh (ow:=ρ i) (du:=ρ j) (kvs:=Lv) (m:=⟨0,fun O=> .bad⟩) (by exact acx hz hlen) hv;refine zG ?_;refine au (GR D1 D2 (beq_eq_false_iff_ne.mpr sys) hA S2 F2 e) (fun f s' hq=> ?_) fun O O x=>x;obtain⟨v,hf,ρ',S',V',r'⟩:=hq;obtain rfl:=r'.CR rfl;exact⟨hf,fun a o e=>V'.keep a o e (fun i hi=>absurd hi (Nat.not_lt_zero _)) (fun q=>q),V'.os,V'.gens⟩
end
end
section
open PySem.F
noncomputable abbrev I8:List Value:= [.ref 38,.type "Exception",.type "BaseException",.type "object"]
noncomputable abbrev GU:Obj:=excClassObj "Unopened" "Unopened" 75 74 [.ref 38] I8 true [] [] false none none (some (.ref 66)) none (some (.str "Unopened" 257)) (some (.str "Unopened" 265)) (some (.bool true)) "Exception.__new__"
theorem GV(w:World):(KK w).lookup 75=some GU:=by kernel_rfl
theorem OE(w:World):specialIn (KK w) (.ref 75) "__call__"=some (some (.builtin "type.__call__")):=by kernel_rfl
theorem OG(w:World):instIn (KK w) (.ref 75) (.type "type")=some true:=by kernel_rfl
theorem OH(w:World):subIn (KK w) (.ref 75) (.ref 75)=some true:=by kernel_rfl
theorem OI(w:World):findIn (KK w) (.ref 75) "__init__"=some (some (.ref 35)):=by kernel_rfl
theorem VU(w:World):typeIn (KK w) (.ref 35)=some (.type "function"):=by kernel_rfl
noncomputable abbrev ph(t:Addr):Obj:= {cls:= .ref 75,data:= .fields #[.ref t,.none,.none,.none,.bool false,.none]}
noncomputable abbrev oy(h:Heap)(rest:List Value):Heap:=(h.push {cls:= .type "tuple",data:= .seq rest.toArray}).push (ph h.objs.size)
section
variable {prog:Program}{w:World}{A:Around}{R:Result->Shared->Prop}{h:Heap}{g:Array GenState}{d:Drawn}{t:Nat}{os:OsState}
theorem afl{rest:List Value}(hC:h.get? 75=some GU)(OJ:rest.length<=sizeLine)(hq:R (.ok (.ret (.ref (h.objs.size+1)))) ⟨oy h rest,g,d,t,os⟩):
  codeAny (model prog w) A (.builtin "Exception.__new__" ⟨.ref 75::rest, []⟩) R ⟨h,g,d,t,os⟩:=by
 have aiA:=excBase_Exception.ends;have VV:(Value.ref 75::I8).contains (.type "Exception")=true:=by decide
 have hcA:(Value.ref 75::I8).contains (.type "AttributeError")=false:=by decide
 have hcN:(Value.ref 75::I8).contains (.type "NameError")=false:=by decide
 refine codeAny_builtinAt excBase_Exception.entry ?_;refine PySem.wpAt_bind ?_;refine PySem.wpAt_bind (PySem.wpAt_stack fun p below=>PySem.wpAt_of_wpAny ?_)
 wp_walk
 refine PySem.wpAt_of_wpAny ?_;rw [excBase_Exception.owner]
 repeat (first|with_reducible refine wpAny_madeHere_exc excBase_Exception.canon hC ?_|with_reducible refine wpAny_loadPart_at hC ?_|(with_reducible refine wpAny_isSubtype_exc hC ?_;first|rw [VV]|rw [hcA]|rw [hcN])|wp_step)
 show R _ _;rw [Heap.size_push];exact hq
end
end
section
open PySem.F
variable {h:Heap}{rest:List Value}
section
variable {prog:Program}{w:World}{A:Around}{R:Result->Shared->Prop}{h:Heap}{g:Array GenState}{d:Drawn}{t:Nat}{os:OsState}
theorem sT{b:Addr}{o:Obj}(e:h.get? b=some o):(oy h rest).get? b=some o:=gT _ (gT _ e)
theorem AS:(oy h rest).get? (h.objs.size+1)=some (ph h.objs.size):=by heap_get
theorem VW(X:(KK w).In h)(OJ:rest.length<=sizeLine)
  (hq:cQ (model prog w) (A.under (.builtin "type.__call__" ⟨.ref 75::rest, []⟩)) (.call (.ref 35) ⟨.ref (h.objs.size+1)::rest, []⟩) (InitBack (h.objs.size+1) R) ⟨oy h rest,g,d,t,os⟩):
  cQ (model prog w) A (.call (.ref 75) ⟨rest, []⟩) R ⟨h,g,d,t,os⟩:=by
 have hC:h.get? 75=some GU:=X _ _ (GV w);have call:Looks (model prog w) h (specialOf (.ref 75) "__call__") (some (.builtin "type.__call__")):=looks_specialIn X (OE w);have typ:Looks (model prog w) h (isInstance (.ref 75) (.type "type")) true:=looks_instIn X (OG w);refine dG rfl (aj ?_);show wpAny _ _ (callAny (.ref 75) _) _ _ _;refine nd_load hC ?_;show wpAny _ _ (callAny.viaDunder (.ref 75) _) _ _ _;refine aN (call.at ?_);dsimp only;rw [tc_bind];refine aN (cP (aN (cP ?_)));refine cP (a:=Fin.again (.call (.builtin "type.__call__") ⟨.ref 75::rest, []⟩)) (And.intro rfl ?_);refine iw rfl (Code.quiet_builtin _ (by decide +kernel)) entry_typeCall (aj (check_slot tc_kind tc_split typ (tc_args _ _ _) ?_));have hm:Looks (model prog w) h (mroOf (.ref 75)) (.ref 75::I8):=((Looks.ld (part:=none) hC).andThen .now).andThen .now;refine af (aj (hm.at ?_));refine af (aj (wpAny_madeBy_exc hC ?_));refine af (ax ?_);refine af (aK (aj (wpAny_call (codeAny_call_builtin_code (Code.quiet_builtin _ excBase_Exception.quiet) (wpAny_check_new_subU (bmB:=I8) excBase_Exception rfl .base hC (afl hC OJ ?_))))));have X':(KK w).In (oy h rest):=X.keeps fun O O=>sT;have t1:Looks (model prog w) (oy h rest) (typeOf (.ref (h.objs.size+1))) (.ref 75):=(Looks.ld AS).andThen .now;have s1:Looks (model prog w) (oy h rest) (isSubtype (.ref 75) (.ref 75)) true:=looks_subIn X' (OH w);have i1:Looks (model prog w) (oy h rest) (typeLookup (.ref 75) "__init__") (some (.ref 35)):=looks_findIn X' (OI w);have b1:Looks (model prog w) (oy h rest) (bindSpecial (.ref 35) (.ref (h.objs.size+1))) (.ref 35, [.ref (h.objs.size+1)]):=bind_fn X' _ (VU w);have inst:Looks (model prog w) (oy h rest) (isInstance (.ref (h.objs.size+1)) (.ref 75)) true:=t1.andThen s1;have spec:Looks (model prog w) (oy h rest) (specialOf (.ref (h.objs.size+1)) "__init__") (some (.ref 35)):=t1.andThen i1;refine af (aj (inst.at ?_));refine af (aK (af (aj (spec.at ?_))));dsimp only;refine aK (af (aj (b1.at ?_)));refine af (iJ (gB hq fun r s' z=> ?_));rcases r with e|(v|_|_|_) <;> first|exact z|exact z.elim|skip
 obtain⟨rfl,z⟩:=z;exact ax (ax z)
end
end
section
open PySem.F Builtin Builtin.ObjectAttr
variable {Q:Unit->Shared->Prop}
theorem VX(w:World):findIn (KK w) (.ref 75) "__setattr__"=some (some (.builtin "object.__setattr__")):=by kernel_rfl
theorem Q2(w:World):findIn (KK w) (.ref 75) "why"=some none:=by kernel_rfl
theorem Q3(w:World):subIn (KK w) (.ref 75) (.type "object")=some true:=by kernel_rfl
section
variable {prog:Program}{w:World}{A:Around}{E:Value->Shared->Prop}{h:Heap}{g:Array GenState}{d:Drawn}{t:Nat}{os:OsState}{x tt:Addr}{v:Value}
theorem I9{tk:Tok}{Q:Fin->Shared->Prop}(X:(KK w).In h)(hx:h.get? x=some (ph tt))
  (hq:∀h' Lw,h'.get? x=some {ph tt with dict:=some h.objs.size}->(∀b o,b≠x->h.get? b=some o->h'.get? b=some o)->Q (.done (.ret .none)) ⟨h',g,d,Lw,os⟩):
  wpAny (model prog w) A (Builtin.«object.__setattr__» ⟨[.ref x,.str "why" tk,v], []⟩) Q E ⟨h,g,d,t,os⟩:=by
 have hC:h.get? 75=some GU:=X _ _ (GV w);have hp:=store_Exception.passes (.ref x);have hl:Looks (model prog w) h (typeLookup (.ref 75) "why") none:=looks_findIn X (Q2 w);unfold Builtin.«object.__setattr__»
 repeat ((fail_if_success (with_reducible show wpAny _ _ (nsSet _ _ _) _ _ _));first|rw [refuse_eq]|(rw [refuseLoop_ref,refuseLoop_ref,hp])|with_reducible refine wpAny_loadPart_at hx ?_|with_reducible refine wpAny_mroOf_exc hC ?_|(with_reducible refine hl.here ?_)|wp_step)
 have VY:(h.push {cls:= .type "dict",data:= .dict #[]}).get? x=some (ph tt):=gT _ hx;have i6:x≠h.objs.size:=Nat.ne_of_lt (Heap.lt_size hx);have VQ:((h.push {cls:= .type "dict",data:= .dict #[]}).update x fun o=> {cls:=o.cls,dict:=some h.objs.size,data:=o.data,slots:=o.slots}).Ns h.objs.size fun O=>none:=
  ⟨_, #[],_,(Heap.get?_update_ne _ _ _ _ i6.symm).trans (Heap.get?_push_at rfl rfl),rfl,fun e he=>absurd he (by simp),fun O=>rfl⟩
 refine wpAny_nsSet1 (Heap.Ns1.of_empty VQ) fun h' hn hs=> ?_;obtain⟨oD,es,ep,ho,hd,hz⟩:=hn.count (Within.cons "why" v Within.nil);refine aN (wpAny_lookBehind ho (by rw [hd];exact pastItsLine_dict (jc hz (by rw [oK,List.length_nil,sizeLine_eq];exact Xs))) ?_);refine cP (hq h' _ ((hs.2 x i6).trans ?_) fun b o hb e=> ?_)
 ·exact Heap.get?_update_self _ VY rfl
 ·exact(hs.2 b (Nat.ne_of_lt (Heap.lt_size e))).trans ((Heap.get?_update_ne _ _ _ _ hb).trans (gT _ e))
theorem Q4{M:Model}{s:Shared}{self nm v:Value}(io:Looks M s.heap (isInstance self (.type "object")) true)(q:Q () s):wpAny M A (checkBuiltinCall "object.__setattr__" ⟨[self,nm,v], []⟩) Q E s:=by
 have ha:=store_Exception.args self nm v;have hk:=store_Exception.kind;have hs:=store_Exception.split
 revert ha hk hs
 generalize ("object.__setattr__":String)=i;intro ha hk hs;exact check_slot hk hs io ha q
theorem OL(X:(KK w).In h)(hx:h.get? x=some (ph tt))
  (hq:∀h' Lw,h'.get? x=some {ph tt with dict:=some h.objs.size}->(∀b o,b≠x->h.get? b=some o->h'.get? b=some o)->Q () ⟨h',g,d,Lw,os⟩):
  wpAny (model prog w) A (setAttr (.ref x) "why" v) Q E ⟨h,g,d,t,os⟩:=by
 have tx:Looks (model prog w) h (typeOf (.ref x)) (.ref 75):=(Looks.ld hx).andThen .now;have io:Looks (model prog w) h (isInstance (.ref x) (.type "object")) true:=tx.andThen (looks_subIn X (Q3 w));have I:InstAt h x (ph tt) 75 none:=⟨hx,rfl,rfl,trivial⟩;refine set_plain (s:=⟨h,g,d,t,os⟩) X I (VX w) ?_;exact codeAny_call_builtin store_Exception.slot.plain store_Exception.entry (Q4 io (I9 X hx fun h' Lw e k=>hq h' Lw e k))
end
end
section
open PySem.F
theorem Q5(w:World):subIn (KK w) (.ref 75) (.type "Exception")=some true:=by kernel_rfl
section
variable {prog:Program}{w:World}{A:Around}{E:Value->Shared->Prop}{h:Heap}{g:Array GenState}{d:Drawn}{t:Nat}{os:OsState}{x tt:Addr}{v:Value}
theorem OM{M:Model}{rest:List Value}{Q:Unit->Shared->Prop}(io:Looks M h (isInstance (.ref x) (.type "Exception")) true)(hC:h.get? 75=some GU)(hx:h.get? x=some (ph tt))(q:Q () ⟨h,g,d,t,os⟩):
  wpAny M A (checkBuiltinCall "Exception.__init__" ⟨.ref x::rest, []⟩) Q E ⟨h,g,d,t,os⟩:=by
 have hs:=excBase_Exception.noStar;refine aN (io.here ?_)
 repeat (first|with_reducible refine wpAny_loadPart_at hx ?_|with_reducible refine wpAny_loadPart_at hC ?_|wp_step)
 refine wpAny_onRaise ?_;have hc:∀(a b:String) (n:Nat),Bind.check ⟨.positional,"*","Exception",.self, [⟨"args",.varPos,false⟩]⟩ a b n (List.map (fun p=>p.fst) ({pos:=Value.ref x::rest}:Args).kw)=pure ():=fun a b n=>check_star_args _ _ _ _ _ _;rw [hc];exact cP q
theorem Lx{Q:Value->Shared->Prop}(X:(KK w).In h)(hx:h.get? x=some (ph tt))
  (hq:∀h',h'.get? x=some (ph h.objs.size)->h'.get? h.objs.size=some {cls:= .type "tuple",data:= .seq #[v]}->(∀b o,b≠x->h.get? b=some o->h'.get? b=some o)->Q .none ⟨h',g,d,t,os⟩):
  wpAny (model prog w) A (call (.builtin "Exception.__init__") [.ref x,v]) Q E ⟨h,g,d,t,os⟩:=by
 have tx:Looks (model prog w) h (typeOf (.ref x)) (.ref 75):=(Looks.ld hx).andThen .now;have io:Looks (model prog w) h (isInstance (.ref x) (.type "Exception")) true:=tx.andThen (looks_subIn X (Q5 w));refine wpAny_call (codeAny_call_builtin excBase_Exception.init.plain excBase_Exception.initEntry (OM io (X _ _ (GV w)) hx ?_))
 wp_walk
 have VY:(h.push {cls:= .type "tuple",data:= .seq #[v]}).get? x=some (ph tt):=gT _ hx;have i6:x≠h.objs.size:=Nat.ne_of_lt (Heap.lt_size hx);refine hq _ (Heap.get?_update_self _ VY rfl) ((Heap.get?_update_other _ _ i6).trans (Heap.get?_push_at rfl rfl)) fun b o hb e=>(Heap.get?_update_other _ _ hb.symm).trans (gT _ e)
end
end
section
open PySem.F
variable {s:Shared}
theorem OK.Tv{prog:Program}{w:World}{ρ:Nat->Addr}(b:Base w s.heap):OK prog w s.heap s ρ ⟨0,fun O=> .bad⟩:=
 ⟨b,fun O O e=>e,fun i j hi=>absurd hi (Nat.not_lt_zero _),fun i hi=>absurd hi (Nat.not_lt_zero _),fun i hi=>absurd hi (Nat.not_lt_zero _)⟩
section
variable {prog:Program}{w:World}{A:Around}{R:Result->Shared->Prop}{h:Heap}{g:Array GenState}{d:Drawn}{t:Nat}{os:OsState}{x tt:Addr}{v:Value}
theorem BH:bF "Exception" (.fn (.type "Exception")):=fun w=>⟨.type "Exception",.inr ⟨by kernel_rfl,by kernel_rfl,by decide⟩,fun O O O=> .fn _⟩
theorem Ct{sg:Sg}{env:Env}{E:Value->Shared->Prop}{Q:Value->Shared->Prop}{mp:Str->Option Value}{y:Str}{p:Pos}{u:Value}(ev:y8 sg env)(hl:sg.nm.lookup y=some .local)(hn:s.heap.Ns env.locals mp)(e:mp y=some u)(hd:(y==("__debug__":Str))=false)(q:Q u s):
  ay s E A (model prog w) Q (eval (.Name y p) env):=
 aj (wpAny_Name (wpAny_loadName_local ev.kind (by unfold Env.kindOf;rw [ev.nm];exact hl) hn e q) hd)
theorem Q6(hA:dj 1 A)(b:Base w h)(hx:h.get? x=some (ph tt))(hnk:(KK w).lookup x=none)
  (hq:∀s' t' dd,s'.heap.get? x=some {ph t' with dict:=some dd}->(∀b o,b≠x->h.get? b=some o->s'.heap.get? b=some o)->s'.gens=g->s'.os=os->R (.ok (.ret .none)) s'):
  cQ (model prog w) A (.call (.ref 35) ⟨[.ref x,v], []⟩) R ⟨h,g,d,t,os⟩:=by
 have S:OK prog w h ⟨h,g,d,t,os⟩ (fun O=>0) ⟨0,fun O=> .bad⟩:=OK.Tv (s:=⟨h,g,d,t,os⟩) b;refine uM (n:=0) (ps:= ["self","why"]) (rest:= []) (gs:= ["Exception"]) (ys:= [.fn (.ref x),.fn v]) (us:= [.ref x,v]) (b.X _ _ (rfl:(KK w).lookup 35=some ⟨_,_,.func _,_⟩)) rfl rfl (codeRec_of b.X rfl) rfl rfl rfl (aF (ps:= ["self","why"]) rfl (iG fun O O=>rfl) w ⟨h,g,d,t,os⟩ [.ref x,v] b.X (dU _) (dU _)) (by decide +kernel) rfl hA S (.cons (.fn _) (.cons (.fn _) .nil)) fun s1 S1 V1 k1 F1 hn=> ?_;refine yS fun Q1 E1 hQ O=> ?_;obtain⟨mp,n1,r1⟩:=F1.loc;have m0:mp "self"=some (.ref x):=by
  obtain⟨u,e,r⟩:=r1 0 "self" rfl rfl;exact r.rr rfl▸e
 have m1:mp "why"=some v:=by
  obtain⟨u,e,r⟩:=r1 1 "why" rfl rfl;exact r.rr rfl▸e
 refine fb (cL (BK (mv ((bA (n:=0) (x:="Exception") (.head _) BH prog w _ h _ _ s1 _ _ (dj.deeper hA) S1 F1).step (m':=⟨0,fun O=> .bad⟩) rfl fun a s2 ρ2 S2 V2 r2=> ?_) rfl) ?_ ?_))
 ·obtain rfl:=r2.rr rfl;have F2:=F1.dQ V2;obtain⟨mp2,n2,_⟩:=F2.loc;have k2:∀b o,h.get? b=some o->s2.heap.get? b=some o:=S2.sub;refine aj (method_type (v:= .builtin "Exception.__init__") (K:=KK w) (h₀:=h) (m:=mp2) ⟨n2,k2,dU _⟩ b.X (by kernel_rfl) (by kernel_rfl) (by kernel_rfl) (by kernel_rfl) ?_);have S2t:OK prog w h {s2 with toks:=s2.toks+1} ρ2 ⟨0,fun O=> .bad⟩:=⟨S2.base,S2.sub,S2.inj,S2.out,S2.ob⟩;have F2t:dw _ _ _ h {s2 with toks:=s2.toks+1} ρ2 0:=⟨F2.ev,F2.loc,F2.y9,F2.own,F2.ap⟩;refine wj (n:=0) (first:= []) (xs:= [.fn (.ref x),.fn v]) (m':=⟨0,fun O=> .bad⟩) (m:=⟨0,fun O=> .bad⟩) (eS (dJ 0 rfl) (eS (dJ 1 rfl) ab (fun O=>rfl)) (fun O=>rfl)) (fun O=>rfl) (aG rfl) (dj.deeper hA) S2t F2t rfl fun vs s3 ρ3 S3 V3 r3=> ?_;obtain⟨u1,u2,rfl,a1,a2⟩:=r3.two;obtain rfl:=(a1.rr rfl).symm;obtain rfl:=(a2.rr rfl).symm;have F3:=F2t.dQ V3;obtain⟨mp3,n3,q3⟩:=F3.loc;have w0:mp3 "self"=some (.ref x):=by
   obtain⟨u,e,r⟩:=q3 0 "self" rfl rfl;exact r.rr rfl▸e
  have w1:mp3 "why"=some v:=by
   obtain⟨u,e,r⟩:=q3 1 "why" rfl rfl;exact r.rr rfl▸e
  have g3:s3.gens=g:=V3.gens.trans (V2.gens.trans V1.gens);have o3:s3.os=os:=V3.os.trans (V2.os.trans V1.os);have k3:∀b o,h.get? b=some o->s3.heap.get? b=some o:=S3.sub;obtain⟨h3,gg3,d3,t3,os3⟩:=s3;have hL:h.get? h.objs.size=none:=cA _;have hLx:h.objs.size≠x:=fun q=>by rw [q,hx] at hL;cases hL
  refine aj (Lx (b.X.keeps k3) (k3 _ _ hx) fun h4 y1 y2 y3=> ?_);have n4:=Hx n3 fun o e=>y3 _ o hLx e;have k4:∀b o,b≠x->h.get? b=some o->h4.get? b=some o:=fun b o hb e=>y3 b o hb (k3 b o e);have X4:(KK w).In h4:=fun a o e=>by
   by_cases hax:a=x
   ·rw [hax,hnk] at e;cases e
   ·exact k4 a o hax (b.X a o e)
  refine cL (lq (Ct F3.ev rfl n4 w1 rfl (Ct F3.ev rfl n4 w0 rfl (aj (OL X4 y1 fun h' Lw z1 z2=> ?_)))) rfl);exact aj (wpAny_execs_nil (hQ _ _ (hq _ _ _ z1 (fun b o hb e=>z2 b o hb (k4 b o hb e)) g3 o3)))
 ·unfold interactive;rw [F1.ev.kind];rfl
 ·exact ky rfl
end
end
section
open PySem.F
noncomputable abbrev J8(t dd:Addr):Obj:= {cls:= .ref 75,dict:=some dd,data:= .fields #[.ref t,.none,.none,.none,.bool false,.none]}
section
variable {M:Model}{A:Around}{E:Value->Shared->Prop}{s:Shared}{env:Env}
theorem Ly{x:Sem Value}{Q:Flow->Shared->Prop}(hh:A.handled=none)
  (h:ay s E A M (fun v s₁=>∃e t dd,v= .ref e/\s₁.heap.get? 75=some GU/\s₁.heap.get? e=some (J8 t dd)/\E (.ref e) s₁) x):ay s E A M Q (raiseStmt env (some x) none):=by
 have VV:(Value.ref 75::I8).contains (.type "BaseException")=true:=by decide
 refine af (au h (fun v s₁ h₁=>aj ?_) fun O O x=>x);obtain⟨e,t,dd,rfl,hC,he,hE⟩:=h₁;obtain⟨hp,g,d,tk,os⟩:=s₁
 repeat (first|with_reducible refine wpAny_loadPart_at he ?_|with_reducible refine wpAny_loadPart_at hC ?_|(with_reducible refine wpAny_isSubtype_exc hC ?_;rw [VV])|wp_step)
 exact wpAny_raiseNew_none hh hE
end
end
section
open PySem.F
theorem GW(w:World):nsIn (KK w) mainGlobals "Unopened"=some (some (.ref 75)):=by kernel_rfl
section
variable {prog:Program}{w:World}{A:Around}{s:Shared}{env:Env}{B:Heap}{outer:List Env}{L e le:Addr}{a0:Value}{Q:Flow->Shared->Prop}
theorem Lz{np p1 p2 p3 p4 pos:Pos}(hu:A.units+40<cLine)(GX:A.frames=some (env::outer))(hf:env.frame=some L)(ev:y8 mQ env)(hB:Base w B)(fl:Heap.FlyingW B (env::outer) e (.ref 75) a0 s.heap)
  {ca:Addr}(hca:env.cells.lookup ("editions":Str)=some ca)(hce:B.IsCell ca (some (.ref le))){ep:Nat}(hle:B.get? le=some (fP [] ep))
  (hq:∀s' b,b= .bool true->(∀a o,B.get? a=some o->s'.heap.get? a=some o)->s'.os=s.os->s'.gens=s.gens->Q (.ret b) s'):
  wpAny (model prog w) A (noteFrame (.ref e) env) (fun O s₂=>wpAny (model prog w) A (setFlight (.ref e) none) (fun O s₃=>
   wpAny (model prog w) A (handleBy (.ref e) env [.ExceptHandler (some (.Name "Unopened" np)) none [.Return (some (.Compare (.Name "editions" p1) [.Eq] [.List [] p2] p3)) p4] pos]) Q cX s₃) cX s₂) cX s:=by
 have kU:env.kindOf "Unopened"=some .globalImplicit:=by unfold Env.kindOf;rw [ev.nm];rfl
 have kE:env.kindOf "editions"=some .cell:=by unfold Env.kindOf;rw [ev.nm];rfl
 refine wpAny_looks_onW GX hf fl fun h1 x1 y1=> ?_;refine wpAny_landsW x1 fun h2 x2 y2=> ?_;have k2:∀a o,B.get? a=some o->h2.get? a=some o:=x2.1;obtain⟨oe,he,Qx⟩:=x2.there;have B2:Base w h2:=hB.keeps k2;have hC:h2.get? 75=some GU:=B2.X _ _ (GV w);refine wpAny_handleBy_cons (codeAny_handlers_test ?_) (by intro q;cases q);obtain⟨mg,mb,G,Bu,_⟩:=B2.top;refine Name_function_global ev.kind kU (loadGlobal_global (ev.PG▸G) (mg_of B2.X G (GW w)) ?_) rfl;refine wpAny_excMatches_sub_self hC he Qx rfl (codeAny_handlers_suite ?_);refine lands_againW x2 fun h3 x3 y3=> ?_;have k3:∀a o,B.get? a=some o->h3.get? a=some o:=x3.1;refine wpAny_execs_cons (wpAny_Return_some (wpAny_Compare1 (wpAny_Name (wpAny_loadName_cell ev.kind kE hca (u7 hce (k3 _)) ?_) (bR rfl)) rfl));refine wpAny_List ?_;refine cP ⟨by rw [sizeLine_eq];decide, ?_⟩;have i1:(h3.push (fP [] 0)).get? le=some (fP [] ep):=gT _ (k3 _ _ hle);have i2:(h3.push (fP [] 0)).get? h3.objs.size=some (fP [] 0):=Heap.get?_push_at rfl rfl;refine SeqAt.compareEq_reads (da:= .list []) (db:= .list []) (.list i1 rfl rfl .nil) (.list i2 rfl rfl .nil) rfl rfl (by show A.units+_<_;simp [PyData.depth,PyData.depthAll];exact ZY hu) ?_;exact hq _ _ rfl (fun a o e=>gT _ (k3 a o e)) rfl rfl
end
end
section
open PySem.F
noncomputable def I_: {fd:FuncData //∃oc od we,∀w,(KK w).lookup 535=some ⟨oc,od,.func fd,we⟩}:=⟨_,_,_,_,fun w=>rfl⟩
noncomputable def Q7: {b:List Stmt //I_.1.body= .stmts b}:=⟨_,rfl⟩
noncomputable def Cu(k:Nat):Stmt:=Q7.1.getD k (.Pass default)
noncomputable abbrev afp:List Str:= ["disks","shape","rows","disk","octets","newest","config","own","guid","other"]
noncomputable abbrev Tw:List Str:= ["read_config","number_of","GUID","config_of","max","all_disks","Unopened"]
noncomputable def LA:Sg:=⟨afp,Tw,I_.1.scope.names⟩
noncomputable def Ei: {c //fY 7 LA (Cu 0) c}:=⟨_,(bh 2 rfl (cN ab) rfl)⟩
noncomputable def Ej: {c //fY 7 LA (Cu 1) c}:=⟨_,(dM (aY (dJ 0 rfl)) (bB 3 rfl (fun h=>nomatch h)) (ai (bh 4 rfl (qA (.head _) mw mx (eS (dJ 3 rfl) (eS (dJ 1 rfl) ab (fun O=>rfl)) (fun O=>rfl)) (fun O=>rfl) gx.2.fn (bR rfl)) rfl) (ar (bN (aD (dJ 4 rfl) d_ nH rfl) (ar (wM (ar (bp (eA (dJ 2 rfl) (eS (b7 (eS (qA (.tail _ (.head _)) jP jQ (eS (eB (dJ 4 rfl) fM (b9 (bA (.tail _ (.tail _ (.head _))) r_))) ab (fun O=>rfl)) (fun O=>rfl) gO.2.fn (bR rfl)) (eS (qA (.tail _ (.tail _ (.tail _ (.head _)))) pB pC (eS (eB (dJ 4 rfl) (b9 (bA (.tail _ (.tail _ (.head _))) r_)) fM) ab (fun O=>rfl)) (fun O=>rfl) jU.2.fn (bR rfl)) (eS (dJ 3 rfl) ab (fun O=>rfl)) (fun O=>rfl)) (fun O=>rfl))) ab (fun O=>rfl)) (fun O=>rfl) (gk F.slot_list_append F.type_list_append) uC (fun O=>⟨_,rfl⟩)) rfl)))) bu))) (fun O O=>rfl))⟩
end
section
open PySem.F
section
variable {m:MH}{sh od:Nat}{L:LD}{Cs:Nat->ea}
set_option maxHeartbeats 1000000 in
theorem ON(hs:c9 m sh)(ho:m.ob od= .list (L.map fun p=> .obj p.1))(GF:od<m.n)(hL:∀p∈L,mP Cs m p.1 p.2)(hl:L.length<=100)(hR:∀k,k<3->uK (Cs k)):
  bL (SM.seq Ei.1 Ej.1 [some (.obj od),some (.obj sh),none,none,none,none,none,none,none,none] m) fun f fr m1=>f= .next/\∃z1 z2,fr= [some (.obj od),some (.obj sh),some (.obj m.n),z1,z2,none,none,none,none,none]/\Ev m m1/\m.n<m1.n/\∃ys,m1.ob m.n= .list ys/\F2 (lO Cs (m.n+1) m1) ys (ck L):=by
 refine bL.cps fun Q hq=> ?_;dsimp only [Ei,Ej];lcg_off;have x0:=Ext.new m (.list []);refine bL.forL od (L.map fun p=> .obj p.1) (fun k fr m1=>(∃z1 z2,fr= [some (.obj od),some (.obj sh),some (.obj m.n),z1,z2,none,none,none,none,none])/\Ev m m1/\m.n<m1.n/\∃ys,m1.ob m.n= .list ys/\F2 (lO Cs (m.n+1) m1) ys (ck (L.take k))) ?_ ?_ ?_ ?_
 ·lcg_off;exact⟨rfl,⟨_,_,rfl⟩,.of x0,gA _,_,bc _ _,.nil⟩
 ·intro k fr m1 mM;refine az fun zG=> ?_;obtain⟨_,x1,_⟩:=mM;refine zG ?_;exact x1.list ho GF
 ·intro k v fr m1 e jJ J hj;refine az fun zG=> ?_;obtain⟨⟨z1,z2,rfl⟩,x1,mN,ys,o1,F1⟩:=jJ;refine zG ?_;rw [ja,nN] at e;refine az fun zG=> ?_;obtain⟨⟨d,tl⟩,hp,rfl⟩:=e;refine zG ?_;have hD:=(hL _ (jC hp)).keep x1;have hk:k<L.length:=by
   rcases Nat.lt_or_ge k L.length with h|h
   ·exact h
   ·rw [List.getElem?_eq_none h] at hp;cases hp
  have kf:ys.length<=100:=by
   rw [F1.len];have:=ou (L.take k);rw [ig] at this;exact RP hl hk this
  lcg_off;refine(sR (hs.yN x1) hD).q1 ?_;intro m2 x2;have o2:=x2.list o1 mN;have oI:m.n<m2.n:=eE mN x2.n;have vS:=F1.mono fun O O a=>a.keep x2.nk
  match tl,hp,hD with
  |none,hp,hD=>
   unfold AG;lcg_off;refine⟨⟨_,_,rfl⟩,x1.trans x2,oI,ys,o2, ?_⟩;rw [gI hp,List.append_nil];exact vS
  |some (g,j),hp,hD=>
   obtain⟨hg,VL⟩:=hD.2 g j rfl;have hC:=hR j VL;have fZ:=qi hC.toConfOK;have e1:c8 (bP 4 g++gn (Cs j)) none (some 4)=bP 4 g:=(ux _ 4).trans (List.take_left' (aw _ _));have e2:c8 (bP 4 g++gn (Cs j)) (some 4) none=gn (Cs j):=(zM _ 4).trans (List.drop_left' (aw _ _));have hn:numOf (bP 4 g)=g:=fz (by exact TC hg) (by exact TF hg);unfold AG;lcg_off;refine Ok.of (a:=false) rfl ?_;lcg_off;refine Ok.sG rfl rfl (by rw [ir,aw];exact Hd fZ) ?_;rw [e1];lcg_off;refine Ok.ex (iH (by rw [aw];exact O4) (by rw [hn];exact TG hg) _) fun m3 x3=> ?_;rw [hn];lcg_off;refine Ok.sG rfl rfl (by rw [ir,aw];exact Hd fZ) ?_;rw [e2];lcg_off;refine(pT hC).k2 ?_;intro v m4 I4 x4;have Bx:=x3.trans x4;have o4:=(Bx.ob _ oI).trans o2;have wU:m.n<m4.n:=eE oI Bx.n;lcg_off;refine Ok.app o4 ⟨by exact lk kf,wU⟩ ?_;lcg_off;refine⟨⟨_,_,rfl⟩,(x1.trans (x2.trans (.of Bx))).pb (dU _),wU,_,fL _ _ _, ?_⟩;rw [gI hp];exact(vS.mono fun O O a=>(a.keep (.of Bx)).pW (gA _)).snoc ⟨v,rfl,(I4.up (.refl _) (by have:=x3.n;exact RQ oI this)).pW (gA _)⟩
 ·intro fr m1 fN;refine az fun zG=> ?_;obtain⟨⟨z1,z2,rfl⟩,x1,mN,ys,o1,F1⟩:=fN;refine zG ?_;rw [eW,hF] at F1;lcg_off;exact⟨z1,z2,rfl,x1,mN,ys,o1,F1⟩
end
end
section
open PySem.F
theorem Q8{n:Nat}{sg:Sg}{prog:Program}{w:World}{g:Heap}{A:Around}{s:Shared}{ρ:Nat->Addr}{m m':MH}{env:Env}{fr:av}{es:List Expr}{ca:av->MM (List MV)}{xs:List MV}{f:Value}{first:List Value}{pos:Pos}{K:Value->Shared->Prop}{E:Value->Shared->Prop}
  (ha:nP n sg es ca)(hp:Plain es)(hk:cE f)(hA:dj n A)(S:OK prog w g s ρ m)(F:dw sg env fr g s ρ m.n)(e:ca fr m=some (xs,m'))
  (k:∀vs s' ρ',OK prog w g s' ρ' m'->dh fo s ρ m s' ρ' m'->bI ρ' m'.n s'.heap xs vs->ay s' E A (model prog w) K (call f (first++vs))):
  ay s E A (model prog w) K (callWith pos f first (backTo pos (starEach es env)) []):=by
 refine lP (P:=fun h=>(KK w).In h) ?_ (fun h X=>hk prog w h X) ?_
 ·rw [hp.back pos env];simp
 ·have h1:=fb (E:=E) ((ha _ _ A _ _ _ _ _ _ pos hA S F).step e (K:=fun vs s'=>(KK w).In s'.heap/\ay s' E A (model prog w) K (call f (first++vs))) fun vs s' ρ' S' V' r=>⟨S'.now.X,k vs s' ρ' S' V' r⟩);rw [hp.back pos env] at h1 ⊢;cases es with
  |nil=>exact kg h1
  |cons x es=>exact jF h1
theorem Q9(w:World){B h:Heap}(b:Base w B){x:Addr}(hx:B.get? x=none):(KK w).lookup x=none:=by
 cases q:(KK w).lookup x with
 |none=>rfl
 |some o=>rw [b.X x o q] at hx;cases hx
section
variable {prog:Program}{w:World}{g:Heap}{A:Around}{s:Shared}{ρ:Nat->Addr}{m:MH}{env:Env}{fr:av}{sg:Sg}
theorem OO{R:Value->Shared->Prop}{v:Value}(hA:dj 2 A)(b:Base w s.heap)
  (hq:∀s' e t' dd,s.heap.get? e=none->s'.heap.get? e=some (J8 t' dd)->(∀b o,s.heap.get? b=some o->s'.heap.get? b=some o)->s'.gens=s.gens->s'.os=s.os->R (.ref e) s'):
  ay s cX A (model prog w) R (call (.ref 75) [v]):=by
 obtain⟨h,gg,d,t,os⟩:=s;refine iJ (VW b.X (by rw [sizeLine_eq];show 1<=_;decide) ?_);refine Q6 (tt:=h.objs.size) ⟨by have:=hA.1;show A.depth+1+_<_;exact Xq this,by have:=hA.2.1;show A.units+1+_<_;exact Xr this,hA.2.2⟩ (b.keeps fun O O=>sT) AS (Q9 w b (B:=h) (h:=h) (Heap.get?_none_of_le (Nat.le_succ _))) fun s' t' dd a1 a2 a3 a4=> ?_;refine⟨rfl,hq s' _ t' dd (Heap.get?_none_of_le (Nat.le_succ _)) a1 (fun c o e=>a2 c o (fun q=> ?_) (sT e)) a3 a4⟩;rw [q,Heap.get?_none_of_le (Nat.le_succ _)] at e;exact bZ e
end
end
section
open PySem.F
theorem VZ:bF "Unopened" (.fn (.ref 75)):=fun w=>⟨.ref 75,.inl (GW w),fun O O O=> .fn _⟩
section
variable {prog:Program}{w:World}{g:Heap}{A:Around}{s:Shared}{ρ:Nat->Addr}{m:MH}{env:Env}{fr:av}{sg:Sg}
theorem LB{np kp J9 pos:Pos}{k:Nat}{E:Value->Shared->Prop}{Q:Flow->Shared->Prop}(hA:dj 3 A)(S:OK prog w g s ρ m)(F:dw LA env fr g s ρ m.n)
  (hE:∀s' e t' dd,s.heap.get? e=none->s'.heap.get? e=some (J8 t' dd)->(∀b o,s.heap.get? b=some o->s'.heap.get? b=some o)->s'.gens=s.gens->s'.os=s.os->E (.ref e) s'):
  ay s E A (model prog w) Q (exec (.Raise (some (.Call (.Name "Unopened" np) [.Constant (.str "no labels") k kp] [] J9)) none pos) env):=by
 obtain⟨S,F⟩:=rebase S F [] (J7 _);rw [arm_exec_Raise];refine af (bx (Ly hA.2.2 ?_));refine af (au (Q:=fun v s₁=>∃e t dd,v= .ref e/\s₁.heap.get? 75=some GU/\s₁.heap.get? e=some (J8 t dd)/\E (.ref e) s₁) (E:=cX) ?_ (fun v s1 q=>af (bx (ax q))) fun O O x=>x.elim);refine iE ((bA (n:=3) (sg:=LA) (.tail _ (.tail _ (.tail _ (.tail _ (.tail _ (.tail _ (.head _))))))) VZ prog w A _ env [] s ρ ⟨0,fun O=> .bad⟩ hA S F).step (m':=⟨0,fun O=> .bad⟩) rfl fun a s1 ρ1 S1 V1 r1=> ?_);obtain rfl:=r1.rr rfl;refine wj (n:=3) (sg:=LA) (first:= []) (eS cH ab (fun O=>rfl)) (fun O=>rfl) C9 hA S1 (F.dQ V1) (m':=⟨0,fun O=> .bad⟩) (xs:= [.str "no labels"]) rfl fun vs s2 ρ2 S2 V2 r2=> ?_;obtain⟨u1,rfl,r3⟩:=r2.one;obtain⟨_,rfl⟩:=r3.xf rfl;have V:=V1.comp V2;have kk:∀b o,s.heap.get? b=some o->s2.heap.get? b=some o:=fun b o e=>V.keep b o e (fun i hi=>absurd hi (Nat.not_lt_zero _)) (fun q=>q);refine OO (hA.less (bR rfl)) S2.now fun s' e t' dd a1 a2 a3 a4 a5=>⟨e,t',dd,rfl,a3 _ _ (S2.now.X _ _ (GV w)),a2,hE s' e t' dd (V.old a1) a2 (fun b o q=>a3 b o (kk b o q)) (a4.trans V.gens) (a5.trans V.os)⟩
end
end
section
open PySem.F
theorem LC{c d:SM}{fr:av}{m:MH}{r:av×MH}(e:SM.seq c d fr m=some (.next,r)):∃et m1,c fr m=some (.next,et,m1)/\d et m1=some (.next,r):=by
 delta SM.seq at e;cases h:c fr m with
 |none=>rw [h] at e;exact bZ e
 |some x=>
  obtain⟨f,et,m1⟩:=x;rw [h] at e;cases f with
  |next=>exact⟨et,m1,rfl,e⟩
  |_=>cases e
theorem GY{h:Heap}{a:Addr}{mp:Str->Option Value}(n:h.Ns a mp):∃o,h.get? a=some o/\∀vs,o.data≠ .fields vs:=by
 obtain⟨o,es,ep,e,d,_⟩:=n;exact⟨o,e,fun vs q=>by rw [d] at q;cases q⟩
section
variable {prog:Program}{w:World}{g:Heap}{A:Around}{s:Shared}{ρ:Nat->Addr}{m:MH}{env:Env}{fr:av}{od sh:Nat}{L:LD}{Cs:Nat->ea}
theorem LG{R:Result->Shared->Prop}(hA:dj 8 A)(S:OK prog w g s ρ m)(F:dw mQ env fr g s ρ m.n)(GX:A.frames=some [env])(hf:env.frame=some env.locals)
  (hs:c9 m sh)(hsh:sh<m.n)(ho:m.ob od= .list (L.map fun p=> .obj p.1))(GF:od<m.n)(hL:∀p∈L,mP Cs m p.1 p.2)(hl:L.length<=100)(hR:∀k,k<3->uK (Cs k))(h0:ck L= [])
  (hq:∀s3 ρ3 m3 LF e a0 s',OK prog w g s3 ρ3 m3->dw mQ env fr g s3 ρ3 m3.n->Ev m m3->(∀i,i<m3.n->ρ3 i≠LF)->¬Own env LF->g.get? LF=none->(∀i,i<m.n->ρ3 i=ρ i)->
   Heap.FlyingW (hideAll s3.heap [LF,env.locals]) [env] e (.ref 75) a0 s'.heap->s'.os=s.os->s'.gens=s.gens->R (.error (.ref e)) s'):
  cQ (model prog w) A (.call (.ref 535) ⟨[.ref (ρ od),.ref (ρ sh)], []⟩) R s:=by
 obtain⟨oc,odd,we,PJ⟩:=I_.2;refine uM (n:=7) (ps:= ["disks","shape"]) (rest:= ["rows","disk","octets","newest","config","own","guid","other"]) (gs:=Tw) (ys:= [.obj od,.obj sh]) (us:= [.ref (ρ od),.ref (ρ sh)]) (S.now.X _ _ (PJ w)) rfl Q7.2 (codeRec_of S.now.X rfl) rfl rfl rfl
  (aF (ps:= ["disks","shape"]) rfl (iG fun O O=>rfl) w s [.ref (ρ od),.ref (ρ sh)] S.now.X (dU _) (dU _)) (by decide +kernel) rfl hA S (.cons (.obj GF) (.cons (.obj hsh) .nil)) fun s1 S1 V1 k1 F1 hn=> ?_
 have OP:dj 7 (A.deeper (callEnvC I_.1 s.heap.objs.size 535)):=dj.deeper hA;have V7:(callEnvC I_.1 s.heap.objs.size 535).frame=some (callEnvC I_.1 s.heap.objs.size 535).locals:=rfl;generalize callEnvC I_.1 s.heap.objs.size 535=xO at F1 hn OP V7 ⊢;refine yS fun Q1 E1 O hE=> ?_;obtain⟨f2,mc,m2,e2,rfl,z1,z2,rfl,x2,oI,ys,o2,FF⟩:=ON hs ho GF hL hl hR;rw [h0] at FF;cases FF;obtain⟨et,m1,e1,e2⟩:=LC e2;have hb:Q7.1=Cu 0::Cu 1::Cu 2::Q7.1.drop 3:=rfl;have h2:∃t np kp J9 pos b q,Cu 2= .If t [.Raise (some (.Call (.Name "Unopened" np) [.Constant (.str "no labels") 0 kp] [] J9)) none pos] b q/\qW 7 LA t fun fr=>MM.bind (rd fr 2) fun a=>MM.bind (MM.bind (MM.ret []) Mh) fun b=>vA a b:=
  ⟨_,_,_,_,_,_,_,rfl,aD (dJ 2 rfl) (cN ab) eT rfl⟩
 obtain⟨tt,np,kp,J9,pos,bb,qq,h2,hT⟩:=h2;rw [hb,h2];refine cL (fb (au ((Ei.2 prog w _ g xO _ s1 ρ m OP S1 F1).at e1) (fun fl s2 q=> ?_) fun O O x=>x));obtain⟨ρ2,S2,V2,r2,F2⟩:=q;obtain rfl:=r2.Mn;refine cL (fb (au ((Ej.2 prog w _ g xO _ s2 ρ2 m1 OP S2 F2).at e2) (fun fl s3 q=> ?_) fun O O x=>x));obtain⟨ρ3,S3,V3,r3,F3⟩:=q;obtain rfl:=r3.Mn;refine cL (CK (fb ((hT prog w _ g xO _ s3 ρ3 m2 OP S3 F3).step (b:=true) (m':=m2.new (.list [])) ?_ fun c s4 ρ4 S4 V4 r4=> ?_)))
 ·have q1:(m2.new (.list [])).ob m.n= .list []:=((Ext.new m2 (.list [])).ob _ oI).trans o2;have q2:(m2.new (.list [])).ob m2.n= .list []:=bc _ _;refine(MM.eI (rfl:rd _ 2 m2=some (.obj m.n,m2))).trans ?_;refine(MM.eI (a:= .obj m2.n) (m1:=m2.new (.list [])) rfl).trans ?_;refine aV ((cC q1).trans ((cC q2).trans ((if_pos rfl).trans ?_)));rw [show pH (m2.new (.list [])) m.n=some (.list []) from(cC q1).trans rfl,show pH (m2.new (.list [])) m2.n=some (.list []) from(cC q2).trans rfl]
  rfl
 subst r4;rw [if_pos rfl];have F4:=F3.dQ V4;have V:=V1.trans ((V2.comp V3).comp V4.weak) fun x o e q=>by rw [hn x q] at e;cases e
 have F5:=F.dQ V;refine cL (LB (OP.less (bR rfl)) S4 F4 fun s5 e t' dd a1 a2 a3 a4 a5=> ?_);obtain⟨mpF,nF,_⟩:=F4.loc;obtain⟨mpL,nL,_⟩:=F5.loc;obtain⟨oF,eF,dF⟩:=GY nF;obtain⟨oL,eL,dL⟩:=GY nL;have hLF:s.heap.get? xO.locals=none:=hn _ (.inl rfl);have hen:(hideAll s4.heap [xO.locals,env.locals]).get? e=none:=by
  cases q:(hideAll s4.heap [xO.locals,env.locals]).get? e with
  |none=>rfl
  |some o=>have:=of_hideAll _ q;rw [a1] at this;cases this
 refine hE _ _ ?_;refine aj (wpAny_leaving_firstW (base:=hideAll s4.heap [xO.locals,env.locals]) (Around.frames_deeper GX) ?_ V7 a2 ?_ ?_ rfl rfl rfl fun h' hL=> ?_)
 ·exact⟨by rw [F4.ev.kind];decide,⟨_,oF,V7,hideAll_none _ (.head _),a3 _ _ eF,dF⟩,by rw [F5.ev.kind];decide,⟨_,oL,hf,hideAll_none _ (.tail _ (.head _)),a3 _ _ eL,dL⟩,trivial⟩
 ·exact fun b o q=>a3 b o (of_hideAll _ q)
 ·exact hen
 ·obtain⟨j1,⟨_,_,j2⟩,j3,j4⟩:=hL;refine hq s4 ρ4 _ xO.locals e _ _ S4 F5 (x2.trans (.of (Ext.new m2 (.list [])))) (fun i hi=>(F4.own _ (.inl rfl)).2.1 i hi) (fun q=> ?_) (F4.own _ (.inl rfl)).1 (fun i hi=>V.ix i hi) ⟨j1, ?_,j2,j3⟩ (a5.trans V.os) (a4.trans V.gens)
  ·obtain⟨o,eo⟩:=(F.own _ q).2.2;rw [hLF] at eo;cases eo
  ·exact hen
end
end
section
open PySem.F
set_option backward.match.sparseCases false
noncomputable def l6x: {args:List Expr //∃es kk tp pf cp ap np p1 p2 p3 p4 hp pos,fe 6= .Try [.Assign [.Tuple es kk tp] (.Call (.Name "found_disks" pf) args [] cp) ap] [.ExceptHandler (some (.Name "Unopened" np)) none [.Return (some (.Compare (.Name "editions" p1) [.Eq] [.List [] p2] p3)) p4] hp] [] [] pos/\
  Plain args/\∀env:Env,swappedStores [.Tuple es kk tp] (.Call (.Name "found_disks" pf) args [] cp) (Ca mQ env)=pure none}:=
 ⟨_,_,_,_,_,_,_,_,_,_,_,_,_,_,rfl,fun O=>rfl,fun O=>by kernel_rfl!⟩
noncomputable abbrev Q_:List Expr:=l6x.1
noncomputable def xc: {ca //nP 9 mQ Q_ ca}:=⟨_,eS (cZ (own:= ["disk","told"]) (cap:= []) (gs:= []) (idx:= []) (by decide +kernel) (aY (dJ 4 rfl)) (fv (.cons (i:=0) rfl (fun O=>rfl) (.cons (i:=1) rfl (fun O=>rfl) .nil))) c_ (dJ 0 rfl) (fun O O=>rfl)) (eS (dJ 1 rfl) ab (fun O=>rfl)) (fun O=>rfl)⟩
theorem uN{M:Model}{A:Around}{s:Shared}{env:Env}{mS:List Expr}{k:Nat}{vD:Pos}{value:Expr}{pos:Pos}{Q:Flow->Shared->Prop}{E:Value->Shared->Prop}
  (h:ay s E A M (fun v s₁=>ay s₁ E A M (fun O=>Q .next) (assign (.Tuple mS k vD) env v)) (eval value env))
  (hs:swapsWithSole [.Tuple mS k vD] value pos.line env=pure false)(hw:swappedStores [.Tuple mS k vD] value env=pure none):
  ay s E A M Q (exec (.Assign [.Tuple mS k vD] value pos) env):=by
 rw [exec_Assign];refine af (bx ?_);rw [hs];refine af (ax ?_);rw [if_neg (bR rfl)];refine af (au h (fun v s₁ h₁=> ?_) fun O O x=>x);rw [hw];refine af (ax ?_);exact af (au h₁ (fun O O x=>ax x) fun O O x=>x)
section
variable {prog:Program}{w:World}{g:Heap}{A:Around}{s:Shared}{ρ:Nat->Addr}{m:MH}{env:Env}{sh cs mo ro eo:Nat}{L:LD}{Cs:Nat->ea}{mk:Nat->Nat}{a0 z5 z6 z7:Option MV}
theorem LH(h:LS Cs mk m sh cs mo ro L):
  Ok (xc.1 [a0,some (.obj sh),some (.obj cs),some (.obj mo),some (.obj ro),z5,z6,z7,none,none,none,none] m) fun vs m'=>vs= [.obj m.n,.obj sh]/\m'=m.new (.list (L.map fun p=> .obj p.1)):=by
 dsimp only [xc]
 set_option tactic.hygienic true in lcg_off
 refine Ok.kl ro (L.map jL) (fun fr=>∃z1 z2,fr= [z1,z2]) (fun k zs m1=>m1=m/\zs=(L.take k).map fun p=> .obj p.1) (by have:=h.len;rw [eW];exact L0 this) ?_ ⟨_,_,rfl⟩ ?_ ?_ ?_
 ·lcg_off;exact⟨rfl,rfl,rfl⟩
 ·rintro k zs _ ⟨rfl,_⟩;exact h.ro.1
 ·intro k v zs fr _ e gQ lM U hj;refine az fun zG=> ?_;obtain⟨rfl,rfl⟩:=gQ;obtain⟨z1,z2,rfl⟩:=lM;refine zG ?_;rw [ja,nN] at e;refine az fun zG=> ?_;obtain⟨⟨d,tl⟩,hp,rfl⟩:=e;refine zG ?_;unfold jL;lcg_off;exact⟨⟨_,_,rfl⟩,rfl,by rw [cW hp,jb];rfl⟩
 set_option tactic.hygienic true in rintro zs _ ⟨rfl,rfl⟩
 rename_i m;rw [eW,hF];lcg_off;exact⟨rfl,rfl⟩
theorem GZ(hA:dj 9 A)(S:OK prog w g s ρ m)(F:dw mQ env [a0,some (.obj sh),some (.obj cs),some (.obj mo),some (.obj ro),z5,z6,some (.obj eo),none,none,none,none] g s ρ m.n)(GX:A.frames=some [env])(hf:env.frame=some env.locals)
  (h:LS Cs mk m sh cs mo ro L)(hC:xK Cs mk)(he:m.ob eo= .list [])(DL:eo<m.n)(h0:ck L= []):
  ay s cX A (model prog w) (fun fl s'=>fl= .ret (.bool true)/\(∀a o,g.get? a=some o->s'.heap.get? a=some o)/\s'.os=s.os/\s'.gens=s.gens) (exec (fe 6) env):=by
 refine az fun zG=> ?_;obtain⟨es,kk,tp,pf,cp,ap,np,p1,p2,p3,p4,hp,pos,h6,hpl,U3⟩:=l6x.2;refine zG ?_;rw [h6];refine rj ?_;refine cL ?_;refine yS fun Q1 E1 O hE=> ?_;refine uN ?_ (Aa rfl) ((sq F.ev _ _).trans (U3 env));refine iE ?_;refine fb ?_;refine(bA (n:=9) (sg:=mQ) (.tail _ (.tail _ (.tail _ (.tail _ (.tail _ (.head _)))))) qZ prog w A g env _ s ρ m hA S F).step (m':=m) rfl fun a s1 ρ1 S1 V1 r1=> ?_;obtain rfl:=r1.rr rfl;have F1:=F.dQ V1;refine az fun zG=> ?_;obtain⟨vs,m2,e2,rfl,rfl⟩:=LH (a0:=a0) (z5:=z5) (z6:=z6) (z7:=some (.obj eo)) h;refine zG ?_;refine Q8 (n:=9) (first:= []) xc.2 hpl q_ hA S1 F1 e2 fun us s2 ρ2 S2 V2 r2=> ?_;obtain⟨u1,u2,rfl,r3,r4⟩:=r2.two;obtain⟨_,rfl⟩:=r3.ik rfl;obtain⟨_,rfl⟩:=r4.ik rfl;have x1:=Ext.new m (.list (L.map fun p=> .obj p.1));have h1:=h.keep (.of x1);have F2:=F1.dQ V2;refine iJ (LG (hA.less (bR rfl)) S2 F2 GX hf h1.sh (by assumption) (bc _ _) (gA _) h1.dk (by have:=h.len;exact Rg this) hC.r h0 fun s3 ρ3 m3 LF e a0' s' S3 F3 x3 q1 q2 q3 q4 fl o1 o2=> ?_);have V:=V1.comp V2;have hx3:m3.ob eo= .list []:=x3.list ((x1.ob _ DL).trans he) (eE DL x1.n);have wY:eo<m3.n:=eE (eE DL x1.n) x3.n;refine az fun zG=> ?_;obtain⟨us,ep,hl,rl⟩:=S3.lst wY hx3;refine zG ?_;cases rl;refine az fun zG=> ?_;obtain⟨ca,cv,c1,c2,c3⟩:=F3.y9 7 "editions" rfl rfl;refine zG ?_;refine az fun zG=> ?_;obtain⟨v',rfl,c3⟩:=c3;refine zG ?_;cases c3;refine az fun zG=> ?_;obtain⟨mpL,nL,_⟩:=F3.loc;refine zG ?_;have fZ:ca≠env.locals:=fun q=>by
  refine az fun zG=> ?_;obtain⟨o,es,ep,n1,n2,_⟩:=nL;refine zG ?_;refine az fun zG=> ?_;obtain⟨o',k1,k2⟩:=c2;refine zG ?_;rw [q,n1] at k1;cases k1;rw [n2] at k2;cases k2
 have hB:∀a o,s3.heap.get? a=some o->a≠LF->a≠env.locals->(hideAll s3.heap [LF,env.locals]).get? a=some o:=fun a o e n1 n2=>hideAll_get _ e fun hm=>by
  rcases List.mem_cons.mp hm with q|hm
  ·exact n1 q
  ·rcases List.mem_cons.mp hm with q|hm
   ·exact n2 q
   ·cases hm
 have hgB:∀a o,g.get? a=some o->(hideAll s3.heap [LF,env.locals]).get? a=some o:=fun a o e=>hB a o (S3.sub a o e) (fun q=>by rw [q,q3] at e;cases e) fun q=>by
  rw [q,(F3.own _ (.inl rfl)).1] at e;cases e
 refine hE _ _ ?_;have key:=Lz (np:=np) (p1:=p1) (p2:=p2) (p3:=p3) (p4:=p4) (pos:=hp) (Q:=fun fl s'=>fl= .ret (.bool true)/\(∀a o,g.get? a=some o->s'.heap.get? a=some o)/\s'.os=s.os/\s'.gens=s.gens) (prog:=prog)
  (by have:=hA.2.1;exact Xe this) GX hf F3.ev (S3.base.keeps hgB) fl c1 (u7 c2 fun o e=>hB _ o e (fun q=>q2 (.inr ⟨_,q▸c1⟩)) fZ) (hB _ _ hl (q1 _ wY) fun q=>(F3.own _ (.inl rfl)).2.1 _ wY q)
  fun kL b hb k o3 o4=>⟨by rw [hb],fun a o e=>k a o (hgB a o e),o3.trans (o1.trans V.os),o4.trans (o2.trans V.gens)⟩
 exact aj (wpAny_mono key (fun O s2 h2=>aj (wpAny_mono h2 (fun O s3 h3=>aj h3) fun O O x=>x)) fun O O x=>x)
end
end
section
open PySem.F
section
variable {prog:Program}{w:World}{g:Heap}{A:Around}{s:Shared}{ρ:Nat->Addr}{m:MH}{env:Env}{fr:av}
theorem G1{Cs:Nat->ea}{G:Int}{D:List Int}(R:List (Nat×Int×Nat)):∀acc:List (Int×MV),(∀p∈acc,∃d,p.2= .obj d)->∀p∈R.foldl (eP Cs G D) acc,∃d,p.2= .obj d:=by
 induction R with
 |nil=>exact fun acc h=>h
 |cons r R ih=>
  intro acc h;refine ih _ fun p hp=> ?_;unfold eP at hp
  split at hp
  ·rcases List.mem_append.mp hp with q|q
   ·exact h p q
   ·rw [List.mem_singleton.mp q];exact⟨_,rfl⟩
  ·exact h p hp
theorem iI{st:Stmt}{rest:List Stmt}{c:SM}{K:Flow->Shared->Prop}{Q:eH->av->MH->Prop}(h:Ef prog w g 9 mQ st c)(hA:dj 9 A)(S:OK prog w g s ρ m)(F:dw mQ env fr g s ρ m.n)(hO:bL (c fr m) fun f fE m'=>f= .next/\Q f fE m')
  (k:∀s' ρ' fE m',OK prog w g s' ρ' m'->dw mQ env fE g s' ρ' m'.n->s'.os=s.os->s'.gens=s.gens->Q .next fE m'->ay s' cX A (model prog w) K (execs rest env)):
  ay s cX A (model prog w) K (execs (st::rest) env):=by
 refine az fun zG=> ?_;obtain⟨f,fE,m',e,rfl,q⟩:=hO;refine zG ?_;refine cL (au ((h A env fr s ρ m hA S F).at e) (fun fl s' z=> ?_) fun O O x=>x);refine az fun zG=> ?_;obtain⟨ρ',S',V,r,F'⟩:=z;refine zG ?_;obtain rfl:=r.Mn;exact k s' ρ' fE m' S' F' V.os V.gens q
theorem LI{l:Addr}{vs:List Value}{ep:Nat}{xs:List Int}(hA:dj 9 A)(S:OK prog w g s ρ ⟨0,fun O=> .bad⟩)(F:dw mQ env [some (.fn (.ref l)),none,none,none,none,none,none,none,none,none,none,none] g s ρ 0)
  (GX:A.frames=some [env])(hf:env.frame=some env.locals)(hg:g.get? l=some (fP vs ep))(hv:∀ρ n h,bI ρ n h (xs.map .int) vs)(hz:xs.length<=100000):
  ay s cX A (model prog w) (fun fl s'=>fl= .ret (.bool true)/\(∀a o,g.get? a=some o->s'.heap.get? a=some o)/\s'.os=s.os/\s'.gens=s.gens) (execs J4.1 env):=by
 have hb:J4.1= [fe 0,fe 1,fe 2,fe 3,fe 4,fe 5,fe 6,fe 7,fe 8,fe 9,fe 10,fe 11,fe 12]:=rfl;rw [hb];refine iI (Q:=fun O fE m'=>fE= [some (.obj 0),none,none,none,none,none,none,none,none,none,none,none]/\m'.ob 0= .list ((xs.take 63).map .int)/\0<m'.n) (afg hg hv (by rw [eW];exact hz)) hA S F ?_ fun s1 ρ1 et m1 S1 F1 o1 g1 q1=> ?_
 ·refine⟨.next,_,_, ?_,rfl,rfl,bc ⟨0,fun O=> .bad⟩ (.list ((xs.take 63).map .int)),gA _⟩;have hc:c8 (xs.map MV.int) none (some 63)=(xs.take 63).map .int:=(ux _ 63).trans (List.map_take ..).symm;refine(SM.DQ (v:= .obj 0) (m1:=(⟨0,fun O=> .bad⟩:MH).new (.list ((xs.take 63).map .int))) ?_).trans rfl;show(if l=l then some (MV.obj 0,(⟨0,fun O=> .bad⟩:MH).new (.list (c8 (xs.map MV.int) none (some 63)))) else none)=_;rw [if_pos rfl,hc]
 refine az fun zG=> ?_;obtain⟨rfl,a1,a2⟩:=q1;refine zG ?_;have hz:(xs.take 63).length<=63:=by rw [ig];exact acu
 refine iI (AJ.2.toG) hA S1 F1 (Oo a1 a2 hz) fun s2 ρ2 mc m2 S2 F2 o2 g2 q2=> ?_;refine az fun zG=> ?_;obtain⟨sh,cs,rfl,LE2,x2⟩:=q2;refine zG ?_;refine iI (AK.2.toG) hA S2 F2 (Oq LE2 hz) fun s3 ρ3 fr3 m3 S3 F3 o3 g3 q3=> ?_;refine az fun zG=> ?_;obtain⟨mo,rfl,mo3,mn3,x3⟩:=q3;refine zG ?_;generalize E8:J5 (eK (xs.take 63) 0) (eK (xs.take 63) 1) (eK (xs.take 63) 2)=Cs at *;generalize hmk:Ed (eK (xs.take 63) 0) (eK (xs.take 63) 1) (eK (xs.take 63) 2)=mk at *;have hC:xK Cs mk:=by rw [<- E8, <- hmk];exact ae5 _ _ _
 have LE3:=LE2.keep (.of x3);refine iI (GG.2.toG) hA S3 F3 (Ot LE3 hz hC) fun s4 ρ4 fr4 m4 S4 F4 o4 g4 q4=> ?_;refine az fun zG=> ?_;obtain⟨ro,L,rfl,ro4,rn4,dk4,uc,x4⟩:=q4;refine zG ?_;have LE4:=LE3.keep (.of x4);have h4:LS Cs mk m4 sh cs mo ro L:=⟨LE4.sh,LE4.cs,⟨(x4.ob _ mn3).trans mo3,eE mn3 x4.n⟩,⟨ro4,rn4⟩,dk4,uc⟩;refine iI (AL.2.toG) hA S4 F4 (Ou h4 hC) fun s5 ρ5 Mv m5 S5 F5 o5 g5 q5=> ?_;refine az fun zG=> ?_;obtain⟨⟨z5,z6,rfl⟩,x5⟩:=q5;refine zG ?_;have h5:=h4.keep x5;refine iI (GH.2.toG) hA S5 F5 (Ov h5) fun s6 ρ6 Ux m6 S6 F6 o6 g6 q6=> ?_;refine az fun zG=> ?_;obtain⟨eo,rfl,eo6,V9,x6⟩:=q6;refine zG ?_;have h6:=h5.keep (.of x6);have oo:s6.os=s.os:=o6.trans (o5.trans (o4.trans (o3.trans (o2.trans o1))));have gg:s6.gens=s.gens:=g6.trans (g5.trans (g4.trans (g3.trans (g2.trans g1))))
 by_cases h0:ck L= []
 ·refine cL (au (GZ hA S6 F6 GX hf h6 hC (by rw [eo6,h0];rfl) V9 h0) (fun fl s' z=> ?_) fun O O x=>x);refine az fun zG=> ?_;obtain⟨rfl,z1,z2,z3⟩:=z;refine zG ?_;exact⟨rfl,z1,z2.trans oo,z3.trans gg⟩
 refine az fun zG=> ?_;obtain⟨r0,rt,hr,ox⟩:=Om (Cs:=Cs) h0;refine zG ?_;refine iI (AM.2.toG) hA S6 F6 (Ow h6 hC hr ox) fun s7 ρ7 fr7 m7 S7 F7 o7 g7 q7=> ?_;refine az fun zG=> ?_;obtain⟨cv,ow,rfl,cv7,V_,od7,x7⟩:=q7;refine zG ?_;have h7:=h6.keep x7;have eo7:=x7.list eo6 V9;have en7:=eE V9 x7.n;refine iI (AO.2.toG) hA S7 F7 (Ox (fr:= []) eo7 en7 h0) fun s8 ρ8 fr8 m8 S8 F8 o8 g8 q8=> ?_;obtain⟨rfl,x8⟩:=q8;have h8:=h7.keep (.of x8);refine iI (GI.2.toG) hA S8 F8 (Oy h8 ((x8.ob _ en7).trans eo7) hr ox) fun s9 ρ9 fr9 m9 S9 F9 o9 g9 q9=> ?_;obtain⟨rfl,x9⟩:=q9;have h9:=h8.keep (.of x9);refine iI (AP.2.toG) hA S9 F9 Oz fun s10 ρ10 ajY m10 S10 F10 o10 g10 q10=> ?_;obtain⟨rfl,rfl⟩:=q10;have x10:=Ext.new m9 (.dict []);have hr3:r0.2.2<3:=(Cn (fun p hp=>(dk4 p hp).2) r0 ox).2;refine iI (w7.2.toG) hA S10 F10 (Ln h9 hC (.of x10) (dU _) (gA _) (bc _ _) hr3) fun s11 ρ11 ajZ Wa S11 F11 o11 g11 q11=> ?_;refine az fun zG=> ?_;obtain⟨⟨y5,y6,rfl⟩,Tz,x11,OQ,afE,afF⟩:=q11;refine zG ?_;have h11:=h9.keep x11;have BF:=sS (Cs:=Cs) (G:=(Cs r0.2.2).gS) (D:=eU (Cs r0.2.2)) (ck L) [];have hrl:=ou L;rw [List.length_nil] at BF;have hob:=G1 (Cs:=Cs) (G:=(Cs r0.2.2).gS) (D:=eU (Cs r0.2.2)) (ck L) [] (fun p hp=>by cases hp);have Ra:ow<m9.n:=eE (eE V_ x8.n) x9.n;have od9:m9.ob ow=_:=(x9.ob _ (eE V_ x8.n)).trans ((x8.ob _ V_).trans od7);have TA:Wa.ob ow=_:=(afE ow (Nat.lt_succ_of_lt Ra) (Nat.ne_of_lt Ra)).trans ((x10.ob _ Ra).trans od9);have OR:ow<Wa.n:=eE (Nat.lt_succ_of_lt Ra) afF;have afH:eZ Wa cv (Cs r0.2.2):=((cv7.keep (Ev.of x8).nk).keep (Ev.of x9).nk).keep x11.nk;refine iI (w8.2.toG) hA S11 F11 (Lp h11 hC hr3 afH OQ Tz OR TA (by exact acv uc BF hrl)) fun s12 ρ12 aj0 m12 S12 F12 o12 g12 q12=> ?_;obtain⟨rfl,GN⟩:=q12;refine cL (au (Lu hA S12 F12 (eE OR GN.n) (eE OQ GN.n) ((GN.ob _ OR).trans TA) ((GN.ob _ OQ).trans Tz) hob (by exact acw uc BF hrl)) (fun fl s' z=> ?_) fun O O x=>x);refine az fun zG=> ?_;obtain⟨rfl,z1,z2,z3⟩:=z;refine zG ?_;exact⟨rfl,fun a o e=>z1 a o (S12.sub a o e),z2.trans (o12.trans (o11.trans (o10.trans (o9.trans (o8.trans (o7.trans oo)))))),z3.trans (g12.trans (g11.trans (g10.trans (g9.trans (g8.trans (g7.trans gg))))))⟩
end
end
section
open PySem.F
theorem Wb{prog:Program}{w:World}{s:Shared}{l:Addr}{vs:List Value}{ep:Nat}{xs:List Int}(b:Base w s.heap)(hl:s.heap.get? l=some (fP vs ep))(hv:∀ρ n h,bI ρ n h (xs.map .int) vs)(hz:xs.length<=100000):
  cQ (model prog w) callerA (.call (.ref 580) ⟨[.ref l], []⟩) (fun r s'=>r= .ok (.ret (.bool true))/\(∀a o,s.heap.get? a=some o->s'.heap.get? a=some o)/\s'.os=s.os/\s'.gens=s.gens) s:=by
 have S:OK prog w s.heap s (fun O=>0) ⟨0,fun O=> .bad⟩:=OK.Tv b;obtain⟨oc,odd,we,PJ⟩:=IZ.2;have hA:dj 10 callerA:=⟨by decide,by decide,rfl⟩;refine uM (n:=9) (ps:= ["script"]) (rest:= ["shape","configs","made_of","rows","disk","told","editions","config","own","newest","due"]) (gs:= ["Shape","_law_configs","_law_cell","len","_law_told","found_disks","sorted","all"]) (ys:= [.fn (.ref l)]) (us:= [.ref l]) (b.X _ _ (PJ w)) rfl J4.2 (codeRec_of b.X rfl) rfl rfl rfl
  (aF (ps:= ["script"]) rfl (gE fun O=>rfl) w s [.ref l] b.X (dU _) (dU _)) (by decide +kernel) rfl hA S (.cons (.fn _) .nil) fun s1 S1 V1 k1 F1 hn=> ?_
 refine fb (au (LI (dj.deeper hA) S1 F1 rfl rfl hl hv hz) (fun fl s' z=> ?_) fun O O x=>x);obtain⟨rfl,z1,z2,z3⟩:=z;exact⟨rfl,z1,z2.trans V1.os,z3.trans V1.gens⟩
end
section
open PySem.F
theorem LJ(w:World):nsIn (KK w) mainGlobals "law"=some (some (.ref 580)):=by kernel_rfl
section
variable {R:WRecords}{P:Params}{h:Heap}
theorem ints_of{xs:List WData}(h:WShape.hasItems R xs .int=true):∃ns:List Int,xs=ns.map .int:=by
 induction xs with
 |nil=>exact⟨[],rfl⟩
 |cons d r ih=>
  simp only [WShape.hasItems,Bool.and_eq_true] at h;obtain⟨i,rfl⟩:=hasW_int h.1;obtain⟨ns,rfl⟩:=ih h.2;exact⟨i::ns,rfl⟩
theorem Ja{vs:List Value}:∀ {ns:List Int},WellAll P h vs (ns.map .int)->∀ρ n h',bI ρ n h' (ns.map .int) vs:=by
 induction vs with
 |nil=>intro ns w ρ n h';cases ns with
  |nil=>exact .nil
  |cons=>cases w
 |cons v vs ih=>intro ns w ρ n h';cases ns with
  |nil=>cases w
  |cons i ns=>cases w with
   |cons a b=>cases a;exact .cons (.int _ _) (ih b ρ n h')
end
theorem Rb{R:WRecords}{ns:List Int}(h:WTm.holds R (.and (.not (.lt (.lit (.int 63)) (.len (.arg 0)))) (.lit (.bool true))) {args:= [.list (ns.map .int)]}=true):ns.length<=63:=by
 rcases Nat.lt_or_ge 63 ns.length with q|q
 ·have q':(63:Int)<ns.length:=by exact YN q
  simp [WTm.holds,WTm.value,W.less?,Num.less?,q'] at h
 ·exact q
theorem some_get{α:Type}{o:Option α}(h:o.isSome=true):o=some (o.get h):=by cases o;cases h;rfl
theorem LK:CH yR uV (XL yR [(Str.ofString "NUMBERS",WData.int 4294967296)]) v9.says Challenge.rw_pb0586_01.row.toRowW ((defOf yR Challenge.rw_pb0586_01.row.name).get (by kernel_rfl)).1 ((defOf yR Challenge.rw_pb0586_01.row.name).get (by kernel_rfl)).2:=by
 intro w s₀ s₁ mg mb G Y a o pm cd doc dV kV h1 h2 h3 h4 h5 rJ args vals as yU EI hrd Wc aj1;have X:(KK w).In s₁.heap:=kIn_of Y;have b:Base w s₁.heap:=⟨X,⟨mg,mb,G.T.g,G.T.b,G.T.builtins⟩,G.T.nolimit⟩;have ha:a=580:=by
  have e1:=mg_of X G.T.g (LJ w);have e2:mg "law"=some (.ref a):=h5;rw [e1] at e2;cases e2;rfl
 subst ha;obtain⟨d,r,rfl,hd1,CX⟩:=hasAllW_cons (pre_splitW yU).1;obtain rfl:=hasAllW_nil CX;obtain⟨xs,rfl,hx⟩:=hasW_list hd1;obtain⟨ns,rfl⟩:=ints_of hx;cases Wc with|cons q1 q2=>
 cases q2;cases q1 with|list hl hw=>
 have hz:ns.length<=63:=by
  have:=(pre_splitW yU).2;exact Rb this
 refine gB (Wb b hl (Ja hw) (by exact lk hz)) fun r s' z=> ?_;obtain⟨rfl,z1,z2,z3⟩:=z;refine⟨.inl ⟨.bool true,.bool true, [],rfl,fun O=>rfl,.bool _, ?_,fun O=>⟨.nil,fun a ha=>by cases ha⟩⟩,OldK.of_keep z1,z2,AllBare.of_eq (z3.trans rJ)⟩;show WTm.holds _ (.eq .res (.lit (.bool true))) _=true;simp [WTm.holds,WTm.value,W.same]
end
end Mine
section
open PySem PySem.F PySem.W PyProof.Rows PySem.Calls PySem.Spec
theorem PySem.Challenge.cw_pb0586_01_holds : PySem.Challenge.rw_pb0586_01.Holds :=
 
 Mine.hdL (Mine.some_get (by kernel_rfl)) (by rfl) (by rfl) Mine.LK
end
