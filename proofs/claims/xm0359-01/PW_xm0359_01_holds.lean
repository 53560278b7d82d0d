import PyProof.Rows.All
import Wide.All
import OpenK.AllK
import Wide.FinOn
import Lean
import PySem.Challenge.RW_xm0359_01
set_option genInjectivity false
set_option genSizeOf false
set_option genSizeOfSpec false
set_option tactic.hygienic false
set_option maxRecDepth 100000
set_option linter.all false
set_option genCtorIdx false
set_option backward.linearNoConfusionType false
noncomputable section
namespace Mine
abbrev cu:=@List.forall_mem_cons
abbrev gy:=@List.forall_mem_nil
abbrev cz:=@List.length_map
abbrev ij:=@List.getElem?_eq_getElem
abbrev fO:=@Bool.false_ne_true
abbrev jo:=@Bool.and_eq_true_iff
abbrev iI:=@List.mem_append_right
abbrev pq:=@List.mem_append_left
abbrev kM:=@List.getD_eq_getElem?_getD
abbrev mE:=@List.getElem?_eq_some_iff
abbrev dc:=@List.length_append
abbrev dN:=@List.mem_singleton
abbrev di:=@List.getElem?_map
abbrev iE:=@List.forall_mem_singleton
abbrev dG:=@Option.some.inj
abbrev cH:=@List.map_map
abbrev fk:=@List.mem_of_getElem?
abbrev eV:=@Nat.lt_of_le_of_lt
abbrev az:=@Nat.le_trans
abbrev eN:=@Nat.le_add_right
abbrev da:=@Nat.zero_le
abbrev g0:=@List.forall_mem_append
abbrev iD:=@Nat.le_of_ble_eq_true
abbrev eU:=@Nat.succ_le_succ
abbrev gM:=@List.mem_append
abbrev gZ:=@Nat.lt_of_lt_of_le
abbrev eI:=@List.length_set
abbrev lI:=@List.getElem?_append_left
abbrev pw:=@List.getElem?_append_right
abbrev ic:=@List.mem_filter
abbrev iC:=@List.append_assoc
abbrev eH:=@Nat.not_lt
abbrev i0:=@Nat.add_le_add_left
abbrev qb:=@Nat.add_le_add_right
abbrev qa:=@List.length_singleton
abbrev uR:=@List.length_replicate
abbrev iZ:=@List.mem_cons
abbrev ib:=@PySem.Heap.get?_push_size
abbrev lH:=@Nat.lt_succ_self
abbrev fj:=@Nat.le_of_lt
abbrev gY:=@Nat.le_add_left
abbrev mH:=@Array.getElem?_toList
abbrev mF:=@Array.length_toList
abbrev fh:=@Nat.le_refl
def aF.{u}{α:Type u}{motive:Option α->Prop}(t:Option α)(none:motive none)(some:∀v,motive (some v)):motive t:=Option.casesOn t none some
def aR{motive:Bool->Prop}(t:Bool)(false:motive false)(true:motive true):motive t:=Bool.casesOn t false true
def cF.{u}{α:Type u}{motive:List α->Prop}(t:List α)(nil:motive [])(cons:∀a l,motive (a::l)):motive t:=List.casesOn t nil cons
def dU{motive:Nat->Prop}(t:Nat)(zero:motive 0)(succ:∀n,motive (n+1)):motive t:=Nat.casesOn t zero succ
inductive A3(p q r:Prop):Prop |mk (h1:p) (h2:q) (h3:r)
inductive f9{T0:Type}(p q:T0->Prop):Prop |mk (a:T0) (h1:p a) (h2:q a)
inductive RU{T0:Type}(p q r:T0->Prop):Prop |mk (a:T0) (h1:p a) (h2:q a) (h3:r a)
inductive Nr{T0 T1:Type}(p q:T0->T1->Prop):Prop |mk (a:T0) (b:T1) (h1:p a b) (h2:q a b)
inductive kO{T0 T1:Type}(p q r:T0->T1->Prop):Prop |mk (a:T0) (b:T1) (h1:p a b) (h2:q a b) (h3:r a b)
inductive Nq{T0 T1:Type}(p q r s t:T0->T1->Prop):Prop |mk (a:T0) (b:T1) (h1:p a b) (h2:q a b) (h3:r a b) (h4:s a b) (h5:t a b)
inductive IW{T0 T1 T2:Type}(p q r:T0->T1->T2->Prop):Prop |mk (a:T0) (b:T1) (c:T2) (h1:p a b c) (h2:q a b c) (h3:r a b c)
inductive IV{T0 T1 T2 T3:Type}(p q r:T0->T1->T2->T3->Prop):Prop |mk (a:T0) (b:T1) (c:T2) (d:T3) (h1:p a b c d) (h2:q a b c d) (h3:r a b c d)
inductive Np{T0 T1 T2 T3:Type}(p q r s:T0->T1->T2->T3->Prop):Prop |mk (a:T0) (b:T1) (c:T2) (d:T3) (h1:p a b c d) (h2:q a b c d) (h3:r a b c d) (h4:s a b c d)
inductive RQ{T0 T1 T2 T3:Type}(p q r s t:T0->T1->T2->T3->Prop):Prop |mk (a:T0) (b:T1) (c:T2) (d:T3) (h1:p a b c d) (h2:q a b c d) (h3:r a b c d) (h4:s a b c d) (h5:t a b c d)
inductive RP{T0 T1 T2 T3:Type}(p q r s t u:T0->T1->T2->T3->Prop):Prop |mk (a:T0) (b:T1) (c:T2) (d:T3) (h1:p a b c d) (h2:q a b c d) (h3:r a b c d) (h4:s a b c d) (h5:t a b c d) (h6:u a b c d)
inductive RM{T0 T1 T2 T3 T4:Type}(p q r s t:T0->T1->T2->T3->T4->Prop):Prop |mk (a:T0) (b:T1) (c:T2) (d:T3) (e:T4) (h1:p a b c d e) (h2:q a b c d e) (h3:r a b c d e) (h4:s a b c d e) (h5:t a b c d e)
inductive RE{T0 T1 T2 T3 T4 T5:Type}(p q r s:T0->T1->T2->T3->T4->T5->Prop):Prop |mk (a:T0) (b:T1) (c:T2) (d:T3) (e:T4) (f:T5) (h1:p a b c d e f) (h2:q a b c d e f) (h3:r a b c d e f) (h4:s a b c d e f)
inductive RB{T0 T1 T2 T3 T4 T5:Type}(p q r s t:T0->T1->T2->T3->T4->T5->Prop):Prop |mk (a:T0) (b:T1) (c:T2) (d:T3) (e:T4) (f:T5) (h1:p a b c d e f) (h2:q a b c d e f) (h3:r a b c d e f) (h4:s a b c d e f) (h5:t a b c d e f)
inductive Fc{T0:Type}(p q r s:T0->Prop):Prop |mk (a:T0) (h1:p a) (h2:q a) (h3:r a) (h4:s a)
inductive RT{T0 T1:Type}(p q r s:T0->T1->Prop):Prop |mk (a:T0) (b:T1) (h1:p a b) (h2:q a b) (h3:r a b) (h4:s a b)
inductive RS{T0 T1 T2:Type}(p q r s t u v:T0->T1->T2->Prop):Prop |mk (a:T0) (b:T1) (c:T2) (h1:p a b c) (h2:q a b c) (h3:r a b c) (h4:s a b c) (h5:t a b c) (h6:u a b c) (h7:v a b c)
def zK(h:Nat.ble a b=true):a+M<=b+M:=qb (iD h) M
def zL(h:Nat.ble (a+b) c=true):a+(b+M)<=c+M:=az (Nat.le_of_eq (Nat.add_assoc a b M).symm) (zK h)
def UL(h:Nat.ble (a+(b+c)) d=true):a+(b+(c+M))<=d+M:=az (i0 (Nat.le_of_eq (Nat.add_assoc b c M).symm) a) (zL h)
def zT(h:a<=b)(k:Nat.ble b c=true):a<=c:=az h (iD k)
def Cf(h:a<=b)(h':b<=c)(k:Nat.ble c d=true):a<=d:=zT (az h h') k
def zE{a b c:Nat}(h:b<=c)(e:a=b):a<=c:=e▸h
def R3{a b c:Nat}(h:b<c)(e:a=b):a<c:=e▸h
def zR{a b c:Nat}(h:a<=b)(e:c=b):a<=c:=e▸h
def Cg{a b c d:Nat}(h:a<=b)(e:b=c)(A:d=c):a<=d:=A▸e▸h
def zB{n:Nat}(b:n<=16777216):(n:Int)<2^63:=Int.lt_of_le_of_lt (Int.ofNat_le.mpr b) (show((16777216:Nat):Int)<2^63 by decide)
def N_{i n:Nat}(l:i<n)(b:n<=16777216):(i:Int)<2^63:=zB (az (fj l) b)
def N9{i:Int}(j:i.toNat<n)(b:n<=16777216):i<2^63:=Int.lt_of_le_of_lt (Int.self_le_toNat i) (N_ j b)
def R4{n m:Nat}(j1:0<=i)(j:i.toNat<n)(e:m=n):i<(m:Int):=(Int.toNat_lt j1).mp (e▸j)
def U0{i n m:Nat}(l:i<m)(e:m=n)(b:n<=16777216):(i:Int)<2^63-1:=Int.lt_of_le_of_lt (Int.ofNat_le.mpr (az (fj l) (zE b e))) (show((16777216:Nat):Int)<2^63-1 by decide)
def N7(h:0<=i): -2^63<=i:=Int.le_trans (by decide) h
def Ob{j:Int}(h:0<j)(k:j<2^40):j.natAbs<2^40:=Int.ofNat_lt.mp (show(j.natAbs:Int)<((2^40:Nat):Int)from(Int.natAbs_of_nonneg (Int.le_of_lt h)).symm▸k)
def N'{j:Int}(h:1<j)(k:j<2^64):j.natAbs<2^64:=Int.ofNat_lt.mp (show(j.natAbs:Int)<((2^64:Nat):Int)from(Int.natAbs_of_nonneg (Int.le_of_lt (Int.lt_trans (by decide) h))).symm▸k)
def R5{x:Int}(A:0<=x){m:Nat}(h:x<m):x.natAbs<m:=Int.ofNat_lt.mp (Int.natAbs_of_nonneg A▸h)
def Oa{i:Int}(h:i.natAbs<2^40): -9223372036854775808<=i/\i<9223372036854775808:=by
 have k:(i.natAbs:Int)<9223372036854775808:=Int.lt_of_lt_of_le (Int.ofNat_lt.mpr h) (by decide);exact⟨Int.neg_le_of_neg_le (Int.le_trans (Int.natAbs_neg i▸Int.le_natAbs) (Int.le_of_lt k)),Int.lt_of_le_of_lt Int.le_natAbs k⟩
def UT{c d a:Nat}(h:c<=d):(d:Int)+((a:Int)-c)=((d-c+a:Nat):Int):=by
 rw[Int.natCast_add,Int.ofNat_sub h,Int.sub_eq_add_neg,Int.sub_eq_add_neg,Int.add_comm a,Int.add_assoc]
def UG{A s t R m:Nat}(h:t<=m)(B:s<=2):A+s+t+R<=A+(R+(m+2)):=by
 rw[Nat.add_assoc A s t,Nat.add_assoc A,Nat.add_comm (s+t),Nat.add_comm m];exact i0 (i0 (Nat.add_le_add B h) R) A
def UE{a J c N:Nat}(h1:J<=N)(A:a=1)(B:c<=2):a+J+c<=N+3:=by
 rw[A,Nat.add_comm 1];show J+1+c<=N+1+2;exact Nat.add_le_add (eU h1) B
def UD{a b c L N:Nat}(h1:a<=b+L)(A:b=1)(B:c=1)(C:L<=N):a+c<=N+2:=by
 rw[A,Nat.add_comm]at h1;rw[B];exact eU (az h1 (eU C))
def UC{t s J R m:Nat}(h1:t<=m)(A:J<=R)(B:s=2):t+s+J<=R+(m+2):=by
 rw[B,Nat.add_comm R];exact Nat.add_le_add (qb h1 2) A
def zD{d X c e:Nat}:d+1+X+c<=d+X+c+(e+1):=by
 rw[Nat.add_right_comm d,Nat.add_right_comm (d+X)];exact i0 (eU (da e)) _
def US{c:Int}{M:Nat}(A:0<=c)(h:c+((1+M:Nat):Int)<=2^20):0<=c+1/\1<=c+1/\c+1<=1048576:=⟨Int.le_add_one A,Int.le_add_of_nonneg_left A,Int.le_trans (Int.add_le_add_left (Int.ofNat_le.mpr (eN 1 M)) c) h⟩
def UR{s c:Int}(A:0<=s)(h1:0<=c):1<s+40169*c+7:=Int.lt_of_lt_of_le (by decide:(1:Int)<0+7) (Int.add_le_add_right (Int.add_nonneg A (Int.mul_nonneg (by decide) h1)) 7)
def UQ{s c:Int}(A:s<2^31)(h1:c<=1048576):s+40169*c+7<2^64:=Int.lt_of_lt_of_le (Int.add_lt_add_right (Int.add_lt_add_of_lt_of_le A (Int.mul_le_mul_of_nonneg_left h1 (by decide))) 7) (by decide)
def UP{s c:Int}(A:0<=s)(h1:1<=c):1<s+93001*c:=Int.lt_of_lt_of_le (by decide:(1:Int)<0+93001*1) (Int.add_le_add A (Int.mul_le_mul_of_nonneg_left h1 (by decide)))
def UO{s c:Int}(A:s<2147483647)(h1:c<=1048576):s+93001*c<2^64:=Int.lt_of_lt_of_le (Int.add_lt_add_of_lt_of_le A (Int.mul_le_mul_of_nonneg_left h1 (by decide))) (by decide)
def UM{i:Int}:(if i<0 then-i else i)=(i.natAbs:Int):=by
 by_cases h:i<0
 ·rw[if_pos h];exact(Int.ofNat_natAbs_of_nonpos (Int.le_of_lt h)).symm
 ·rw[if_neg h];exact(Int.natAbs_of_nonneg (Int.not_lt.mp h)).symm
def UN{n d:Nat}(h:n<=100)(A:d<=2):((n:Int)-d).natAbs<=10000:=az (Int.natAbs_sub_le n d) (az (Nat.add_le_add h A) (by decide))
def zU(h:u+60<c)(q:m<=50):u+m<c:=eV (i0 (zT q rfl) u) h
def R0(h:u+60<c)(q:m<=50):u+1+m<c:=eV (az (Nat.le_of_eq (Nat.add_assoc u 1 m)) (i0 (zT (i0 q 1) rfl) u)) h
def RZ(h:u+800<=c)(q:m<=50):u+1+m<c:=R0 (gZ (Nat.add_lt_add_left (by decide) u) h) q
def UB{u m c:Nat}(h:u+800<=c)(q:m<=50):u+(m+1)<c:=R3 (RZ h q) (congrArg (u+ ·) (Nat.add_comm m 1) |>.trans (Nat.add_assoc u 1 m).symm)
def zG{n:Nat}(q:n<1000):¬(n:Int)>=2^63:=Int.not_le.mpr (Int.lt_trans (Int.ofNat_lt.mpr q) (by decide))
def UX(h:d+10*n+20+5*1<=r):d+5<r:=az (Nat.add_le_add (eN d (10*n)) (by decide:6<=25)) h
def UY(h:d+10*(n+1)+20+5*0<=r):d+1+10*n+20+5*1<=r:=az (az (Nat.le_of_eq (congrArg (· +25) (Nat.add_right_comm d 1 (10*n)))) (i0 (by decide:26<=30) (d+10*n))) h
def UW(h:d+40*(n+1)+800+20*0<=r):d+3+40*n+800+20*1<=r:=az (az (Nat.le_of_eq (congrArg (· +820) (Nat.add_right_comm d 3 (40*n)))) (i0 (by decide:823<=840) (d+40*n))) h
def UZ(h:d+10*(n+1)+20+5*0<=r):d<r:=az (i0 (gY 1 (10*(n+1)+19)) d) h
def UU{a b k:Nat}(h:a<=k)(h':k<=a+b):a+(b-(a+b-k))=k:=(Nat.add_sub_assoc (Nat.sub_le_of_le_add (az (qb h b) (Nat.le_of_eq (Nat.add_comm k b)))) a).symm.trans (Nat.sub_sub_self h')
def UK{x a b k:Nat}(h:x+b<=k)(h':k<=a+b):x<=a:=Nat.le_of_add_le_add_right (az h h')
def Fd:i+1+n=i+(n+1):=Nat.succ_add i n
def zP{l:Int}(h:l.toNat=m+1):0<l:=Int.lt_toNat.mp (h▸Nat.succ_pos m:0<l.toNat)
def UH{l:Int}(h:l.toNat=m+1):(l-1).toNat=m:=(Int.pred_toNat l).trans (congrArg Nat.pred h)
def UJ(h:n.natAbs<=10000): -2^62<=n:=Int.le_trans (by decide: -2^62<= -((10000:Nat):Int)) (Int.neg_le_of_neg_le (Int.le_trans (Int.natAbs_neg n▸Int.le_natAbs) (Int.ofNat_le.mpr h)))
def UI{n:Int}(h:n.natAbs<=10000):n<2^62:=Int.lt_of_le_of_lt (Int.le_trans Int.le_natAbs (Int.ofNat_le.mpr h)) (by decide:((10000:Nat):Int)<2^62)
def zF(h:b<=c)(k:Nat.ble a b=true):a<=c+d:=az (iD k) (az h (eN c d))
def zQ(z:F=C+1)(B:A=w+1):A+C=w+F:=by subst z B;exact Fd
def zH{d t u b:Nat}(A:u<=t+1)(h:t<=d)(B:d<=b):d-t+u<=b+1:=az (i0 A _) (eU (zE B (Nat.sub_add_cancel h)))
def N8:f<f+1+r:=gZ (lH f) (eN _ r)
def Gi:10+(10*l+M)<=10*(l+1)+M:=by rw[Nat.mul_succ,<-Nat.add_assoc,Nat.add_comm 10];exact fh _
def z1:1+(n+M)<=n+1+M:=by rw[<-Nat.add_assoc,Nat.add_comm 1];exact fh _
def N6(h:s<=6):l+s+6*F<l+1+6*(F+1):=eV (az (qb (i0 h l) _) (Nat.le_of_eq ((Nat.add_assoc l 6 _).trans (congrArg (l+ ·) (Nat.add_comm 6 _))))) (Nat.add_lt_add_right (lH l) (6*F+6))
def aS{l:List α}(h:l[i]? =some a):i<l.length:=(mE.mp h).1
def bB{G:Prop}(h:∀P:Prop,(G->P)->P):G:=h G id
section
variable {α β:Type}{P:Prop}
def bZ{l:List α}(h:b∈l.map f)(k:∀a,a∈l->f a=b->P):P:=by obtain⟨a,B,A⟩:=List.mem_map.mp h;exact k a B A
def dg(h:x.bind f=some b)(k:∀a,x=some a->f a=some b->P):P:=by obtain⟨a,B,A⟩:=Option.bind_eq_some_iff.mp h;exact k a B A
def pK(h:x.map f=some b)(k:∀a,x=some a->f a=b->P):P:=by obtain⟨a,B,A⟩:=Option.map_eq_some_iff.mp h;exact k a B A
def d3(h:(a&&b)=true)(k:a=true->b=true->P):P:=by obtain⟨B,A⟩:=jo.mp h;exact k B A
def lu{l:List α}(h:l.any p=true)(k:∀a,a∈l->p a=true->P):P:=by obtain⟨a,B,A⟩:=List.any_eq_true.mp h;exact k a B A
def D0{l:List α}(h:a∈l)(k:∀i:Nat,l[i]? =some a->P):P:=by obtain⟨i,e⟩:=List.mem_iff_getElem?.mp h;exact k i e
def Hv{l:List α}(h:a∈l.filter p)(k:a∈l->p a=true->P):P:=by obtain⟨B,A⟩:=ic.mp h;exact k B A
def xb(h:l.getLast? =some a)(k:∀r,l=r++[a]->P):P:=by obtain⟨r,e⟩:=List.getLast?_eq_some_iff.mp h;exact k r e
def lr[Decidable c](h:(if c then o else none)=some w)(k:c->o=some w->P):P:=by
 by_cases q:c
 ·rw[if_pos q]at h;exact k q h
 ·rw[if_neg q]at h;cases h
def aK(h:a/\b)(f:a->b->P):P:=f h.1 h.2
def eK{p:α->Prop}(h:∃a,p a)(f:∀a,p a->P):P:=h.elim f
def kE{p:α->Prop}(f:∀a,p a->P):(∃a,p a)->P:=λA=>by obtain⟨a,h⟩:=A;exact f a h
end
def Gj{r:Nat}(h:r<2):r=0\/r=1:=(Nat.lt_or_eq_of_le (Nat.le_of_lt_succ h)).imp Nat.lt_one_iff.mp λe=>e
def R6{r:Nat}(h:r<3):r=0\/r=1\/r=2:=(Nat.lt_or_eq_of_le (Nat.le_of_lt_succ h)).elim (λh=>(Gj h).imp (λe=>e) .inl) λh=>.inr (.inr h)
def R7{A:Type}{l:List A}(h:l.length=2):∃a b,l=[a,b]:=by
 rcases l with _ |⟨a,_ |⟨b,_ |_⟩⟩<;>cases h;exact⟨a,b,rfl⟩
def Nu{A:Type}{l:List A}(h:l.length=3):∃a b c,l=[a,b,c]:=by
 rcases l with _ |⟨a,l⟩
 ·cases h
 obtain⟨b,c,rfl⟩:=R7 (Nat.succ.inj h);exact⟨a,b,c,rfl⟩
end Mine
namespace Mine
open PySem (Str PyData)
abbrev Tx:=Str
noncomputable abbrev yW:Tx:=⟨#[106,117,109,112,117,110,108,101,115,115]⟩
noncomputable abbrev pJ:Tx:=⟨#[114,101,116,114,121]⟩
noncomputable abbrev pH:Tx:=⟨#[106,117,109,112]⟩
noncomputable abbrev wV:Tx:=⟨#[106,117,109,112,105,102]⟩
noncomputable abbrev wU:Tx:=⟨#[115,101,116,108]⟩
noncomputable abbrev zI:Tx:=⟨#[108,97,109,98,100,97]⟩
noncomputable abbrev yV:Tx:=⟨#[98,108,111,99,107]⟩
noncomputable abbrev xX:Tx:=⟨#[103,101,116,108]⟩
noncomputable abbrev zC:Tx:=⟨#[108,101,97,118,101]⟩
noncomputable abbrev NA:Tx:=⟨#[116,117,114,110,101,100,32,98,114,97,110,99,104,101,115]⟩
noncomputable abbrev m6:Tx:=⟨#[102,97,105,108]⟩
noncomputable abbrev vm:Tx:=⟨#[106,117,109,112,110,105,108]⟩
noncomputable abbrev sZ:Tx:=⟨#[101,110,115,117,114,101]⟩
noncomputable abbrev Dl:Tx:=⟨#[107,110,111,119,110,32,98,114,97,110,99,104,101,115]⟩
noncomputable abbrev n_:Tx:=⟨#[115,101,108,102]⟩
noncomputable abbrev sY:Tx:=⟨#[114,101,115,99,117,101]⟩
noncomputable abbrev zN:Tx:=⟨#[98,108,111,99,107,103,105,118,101,110]⟩
noncomputable abbrev sX:Tx:=⟨#[117,110,100,101,102]⟩
noncomputable abbrev pI:Tx:=⟨#[115,101,116,99]⟩
noncomputable abbrev Dk:Tx:=⟨#[115,104,111,114,116,32,106,117,109,112,115]⟩
noncomputable abbrev qV:Tx:=⟨#[112,117,115,104]⟩
noncomputable abbrev qU:Tx:=⟨#[103,101,116,105]⟩
noncomputable abbrev qT:Tx:=⟨#[103,101,116,103]⟩
noncomputable abbrev qS:Tx:=⟨#[115,101,116,105]⟩
noncomputable abbrev qR:Tx:=⟨#[115,101,116,103]⟩
noncomputable abbrev qQ:Tx:=⟨#[116,101,120,116]⟩
noncomputable abbrev n9:Tx:=⟨#[112,111,112]⟩
noncomputable abbrev qP:Tx:=⟨#[115,119,97,112]⟩
noncomputable abbrev x7:Tx:=⟨#[109,101,116,104,111,100]⟩
noncomputable abbrev sW:Tx:=⟨#[115,101,110,100]⟩
noncomputable abbrev Dj:Tx:=⟨#[100,101,97,100,32,114,111,119,115]⟩
noncomputable abbrev qO:Tx:=⟨#[111,117,116]⟩
noncomputable abbrev qN:Tx:=⟨#[100,117,112]⟩
noncomputable abbrev zM:Tx:=⟨#[114,101,116,117,114,110]⟩
noncomputable abbrev vl:Tx:=⟨#[112,117,115,107]⟩
noncomputable abbrev Di:Tx:=⟨#[116,104,114,101,97,100,101,100]⟩
noncomputable abbrev x6:Tx:=⟨#[99,104,105,108,100]⟩
noncomputable abbrev x5:Tx:=⟨#[99,108,97,115,115]⟩
noncomputable abbrev sV:Tx:=⟨#[100,101,102]⟩
noncomputable abbrev Dh:Tx:=⟨#[112,117,115,104,101,115]⟩
noncomputable abbrev zJ:Tx:=⟨#[98,114,101,97,107]⟩
noncomputable abbrev xZ:Tx:=⟨#[99,97,108,108]⟩
noncomputable abbrev Dg:Tx:=⟨#[99,111,112,105,101,115]⟩
noncomputable abbrev G3:Tx:=⟨#[100,101,102,105,110,101,100]⟩
noncomputable abbrev Df:Tx:=⟨#[115,117,112,101,114]⟩
noncomputable abbrev De:Tx:=⟨#[115,119,97,112,115]⟩
noncomputable abbrev xY:Tx:=⟨#[118,97,114]⟩
noncomputable abbrev G2:Tx:=⟨#[109,111,100,117,108,101]⟩
noncomputable abbrev G1:Tx:=⟨#[122,115,117,112,101,114]⟩
noncomputable abbrev G0:Tx:=⟨#[115,99,108,97,115,115]⟩
noncomputable abbrev KN:Tx:=⟨#[109,101,116,104,111,100,95,111,102]⟩
noncomputable abbrev KL:Tx:=⟨#[116,97,98,108,101,114,101,115,116]⟩
noncomputable abbrev KJ:Tx:=⟨#[116,97,98,108,101,111,110,108,121]⟩
noncomputable abbrev GZ:Tx:=⟨#[121,105,101,108,100]⟩
noncomputable abbrev KI:Tx:=⟨#[108,105,115,116,102,105,116,115]⟩
noncomputable abbrev KH:Tx:=⟨#[115,112,114,101,97,100,116,111]⟩
noncomputable abbrev KG:Tx:=⟨#[108,105,115,116,112,97,114,116]⟩
noncomputable abbrev KC:Tx:=⟨#[99,111,110,115,116,95,111,102]⟩
noncomputable abbrev KA:Tx:=⟨#[116,97,98,108,101,104,97,115]⟩
noncomputable abbrev Kz:Tx:=⟨#[114,101,115,112,111,110,100]⟩
noncomputable abbrev Ky:Tx:=⟨#[98,117,105,108,116,105,110]⟩
noncomputable abbrev GY:Tx:=⟨#[115,100,101,102]⟩
noncomputable abbrev Kx:Tx:=⟨#[110,111,109,97,116,99,104]⟩
noncomputable abbrev Kw:Tx:=⟨#[116,97,98,108,101,97,116]⟩
noncomputable abbrev Kv:Tx:=⟨#[103,101,116,99,105,110]⟩
noncomputable abbrev Ku:Tx:=⟨#[108,105,115,116,97,116]⟩
noncomputable abbrev Kt:Tx:=⟨#[115,116,111,114,101]⟩
noncomputable abbrev Ks:Tx:=⟨#[116,101,120,116,115]⟩
noncomputable abbrev Kr:Tx:=⟨#[114,97,110,103,101]⟩
noncomputable abbrev Kq:Tx:=⟨#[32,114,111,119,32]⟩
noncomputable abbrev Kp:Tx:=⟨#[97,103,97,105,110]⟩
noncomputable abbrev Ko:Tx:=⟨#[116,97,98,108,101]⟩
noncomputable abbrev Kn:Tx:=⟨#[97,108,105,97,115]⟩
noncomputable abbrev Km:Tx:=⟨#[108,105,115,116]⟩
noncomputable abbrev Kl:Tx:=⟨#[112,97,115,115]⟩
noncomputable abbrev Kk:Tx:=⟨#[116,117,99,107]⟩
noncomputable abbrev Kj:Tx:=⟨#[103,101,116,99]⟩
noncomputable abbrev GW:Tx:=⟨#[110,99]⟩
noncomputable abbrev Ki:Tx:=⟨#[110,105,108]⟩
noncomputable abbrev Kh:Tx:=⟨#[112,117,116]⟩
noncomputable abbrev GU:Tx:=⟨#[99,99]⟩
noncomputable abbrev Kg:Tx:=⟨#[103,111]⟩
noncomputable abbrev Kf:Tx:=⟨#[64,120]⟩
noncomputable abbrev Ke:Tx:=⟨#[64,121]⟩
noncomputable abbrev Kd:Tx:=⟨#[64,122]⟩
noncomputable abbrev Kc:Tx:=⟨#[36,120]⟩
noncomputable abbrev Kb:Tx:=⟨#[36,121]⟩
noncomputable abbrev Ka:Tx:=⟨#[120,61]⟩
noncomputable abbrev J':Tx:=⟨#[58,32]⟩
noncomputable abbrev J_:Tx:=⟨#[36,33]⟩
inductive Sc |r |u(b:Bool)|m(i:Int)|j(s:Tx)|fn(f:Nat)
inductive AV |s(c:Sc)|n(k:Nat)(l:List AV)
inductive SF |v(a:AV)|o(l:List AV)
inductive SV |a |f(s:SF)|e(k:Nat)(l:List SF)
noncomputable def Sc.ctorIdx(x:Sc):Nat:=x.casesOn 0 (λz=>1) (λz=>2) (λz=>3) λz=>4
noncomputable def SF.ctorIdx(x:SF):Nat:=x.casesOn (λz=>0) λz=>1
noncomputable def SV.ctorIdx(x:SV):Nat:=x.casesOn 0 (λz=>1) λz z=>2
noncomputable abbrev AV.u(b:Bool):AV:=.s (.u b)
noncomputable abbrev AV.m(i:Int):AV:=.s (.m i)
noncomputable abbrev AV.j(t:Tx):AV:=.s (.j t)
noncomputable abbrev AV.r:AV:=.s .r
noncomputable abbrev AV.aj(l:List AV):AV:=.n 1 l
noncomputable abbrev AV.tup(l:List AV):AV:=.n 0 l
noncomputable abbrev SV.h(a:AV):SV:=.f (.v a)
noncomputable abbrev SV.aj(l:List AV):SV:=.f (.o l)
abbrev mJ:=Option (Nat×Nat)
set_option genCtorIdx true in
inductive IZ |eq |ne |lt |le |gt |ge |is |b |c |a
set_option genCtorIdx true in
inductive IK |h |range |d |zip
inductive Op
 |G |sub |a |R |fdiv |pow |l |not |E |A (k i:Nat)|Q |f (lo hi:Bool)|tup |aj |w |h (k:Nat)|c |d |repr |abs |min |index |b |cY |n |j
inductive CK |fn(f:Nat)|sm(c f:Nat)|h |new(c:Nat)|P(m:Nat)
inductive IE
 |d (c:Sc)|M (i:Nat)|H (x:Nat) (p:mJ)|at (x:Nat) (p:mJ) (e:IE)|O (x:Nat) (p:mJ)|P (x:Nat) (p:mJ)
 |op (o:Op) (es:List IE)|I (a:IE) (os:List IZ) (es:List IE)|and (es:List IE)|or (es:List IE)|L (t a b:IE)
 |B (elt:IE) (tg:List Nat) (tup:Bool) (k:IK) (es cond:List IE)|K (f:CK) (ios:List Nat) (es:List IE)
inductive IS
 |h (x:Nat) (own:Bool) (e:IE)|r (xs:List Nat) (e:IE)|n (rev:Bool) (xs:List Nat) (es:List (Bool×IE))|set (x:Nat) (p:mJ) (i e:IE)|A (x:Nat) (i j e e':IE)
 |G (x k:Nat) (e:IE)|E (k i:Nat) (own:Bool) (e:IE)|I (x:Nat) (p:mJ) (e:IE)
 |ex (e:IE)|d (t:IE) (b c:List IS)|l (tg:List Nat) (tup:Bool) (k:IK) (es:List IE) (body:List IS)|M (t:IE) (body:List IS)
 |C (own:Bool) (e:IE)|F (es:List (Option Nat×IE))|q (e:IE)|o (e e':IE)|cont |a (xs:List Nat)
noncomputable abbrev IE.p(l:List IE):IE:=.op .G l
noncomputable abbrev IE.x(l:List IE):IE:=.op .Q l
noncomputable abbrev IE.l(l:List IE):IE:=.op .aj l
noncomputable abbrev IE.u(l:List IE):IE:=.op .tup l
noncomputable abbrev IE.n(l:List IE):IE:=.op .E l
noncomputable abbrev IE.m(l:List IE):IE:=.op .sub l
noncomputable abbrev IE.o(l:List IE):IE:=.op .not l
noncomputable abbrev IE.h(f:Nat)(l:List IE):IE:=.K (.fn f) [] l
noncomputable abbrev IS.y(e:IE):IS:=.C false e
noncomputable abbrev IE.q(a b:IE):IE:=.I a [.eq] [b]
noncomputable abbrev IE.w(a b:IE):IE:=.I a [.c] [b]
noncomputable abbrev IE.a(c i:Nat)(l:List IE):IE:=.op (.A c i) l
noncomputable abbrev IE.r(x:Nat):IE:=.H x none
noncomputable abbrev IE.i(i:Int):IE:=.d (.m i)
noncomputable abbrev IE.t(t:Tx):IE:=.d (.j t)
noncomputable abbrev IE.k(f:Nat)(a:List Nat)(es:List IE):IE:=.K (.fn f) a es
inductive aD(α:Type)|oK(a:α)|bG |aA
noncomputable def aD.ctorIdx{α:Type}(x:aD α):Nat:=x.casesOn (λz=>0) 1 2
def bf{α:Type}{motive:aD α->Prop}(t:aD α)(oK:∀a,motive (.oK a))(bG:motive .bG)(aA:motive .aA):motive t:=aD.casesOn t oK bG aA
noncomputable def aD.i{α β:Type}(x:aD α)(f:α->aD β):aD β:=match x with |oK a=>f a |bG=>bG |aA=>aA
noncomputable def aD.d{α:Type}:Option α->aD α |some a=>oK a |none=>aA
inductive Fl |a |cont |C(v:SV)
noncomputable def Fl.ctorIdx(x:Fl):Nat:=x.casesOn 0 1 λz=>2
noncomputable def SF.q:SF->AV |.v a=>a |.o l=>.n 1 l
def SV.q:SV->Option AV |.a=>none |.f s=>some s.q |.e k l=>some (.n k (l.map SF.q))
noncomputable def SF.aj:SF->Option (List AV)|.o l=>some l |.v _ =>none
noncomputable def SV.b(p:mJ)(s:SV):Option SF:=match s with
 |.a=>none
 |.f s=>match p with |none=>some s |some _ =>none
 |.e k l=>match p with |none=>none |some (k',i)=>if k=k' then l[i]? else none
noncomputable def SV.iN(p:mJ)(s:SV)(w:SF):SV:=match s with
 |.a=>.a
 |.f _ =>.f w
 |.e k l=>match p with |none=>.f w |some (_,i)=>.e k (l.set i w)
noncomputable def aV(ah:List SV)(x:Nat)(v:SV):aD (List SV):=if x<ah.length then .oK (ah.set x v)else .aA
def pQ(ah:List SV)(x:Nat)(p:mJ):Option SF:=(ah[x]?).bind (SV.b p)
def eY(ah:List SV)(x:Nat)(p:mJ):Option (List AV):=(pQ ah x p).bind SF.aj
def iN(ah:List SV)(x:Nat)(p:mJ)(w:List AV):List SV:=ah.set x (((ah[x]?).getD .a).iN p (.o w))
def Fq(ah:List SV)(x:Nat)(p:mJ):Option (AV×List SV):=match p with
 |none=>(ah[x]?).bind λs=>s.q.map λv=>(v,ah.set x (.h v))
 |some q=>match pQ ah x (some q)with |some (.v a)=>some (a,ah)|_ =>none
noncomputable def c_:AV->aD Bool |.s (.u b)=>.oK b |_ =>.aA
noncomputable def intOf:AV->aD Int |.s (.m b)=>.oK b |_ =>.aA
noncomputable def strOf:AV->aD Tx |.s (.j b)=>.oK b |_ =>.aA
noncomputable def mR:AV->Option (List AV)|.n 1 l=>some l |_ =>none
noncomputable def xO(f:AV->Option AV):List AV->Option AV |[a]=>f a |_ =>none
noncomputable def E3(f:AV->AV->Option AV):List AV->Option AV |[a,b]=>f a b |_ =>none
noncomputable def Cj(f:Int->Option AV)(a:AV):Option AV:=match a with |.s (.m i)=>f i |_ =>none
noncomputable def Gv(f:Tx->Option AV)(a:AV):Option AV:=match a with |.s (.j i)=>f i |_ =>none
noncomputable def Nz(f:Bool->AV)(a:AV):Option AV:=match a with |.s (.u b)=>some (f b)|_ =>none
noncomputable def I_(f:List AV->Option AV)(a:AV):Option AV:=match a with |.n 1 l=>f l |_ =>none
def EU(f:Int->Int->Option AV)(a b:AV):Option AV:=Cj (λi=>Cj (f i) b) a
noncomputable def b_(n:Nat)(i:Int):Option Nat:=if 0<=i then(if i.toNat<n then some i.toNat else none)else none
noncomputable def dT:AV->Option (Nat×List AV)|.n k l=>some (k,l)|.s _ =>none
def LZ(a b:AV):Option AV:=(dT a).bind λq=>if q.1<2 then Cj (λi=>(b_ q.2.length i).bind λk=>q.2[k]?) b else none
def M6(k i:Nat)(a:AV):Option AV:=(dT a).bind λq=>if q.1=k then q.2[i]? else none
def LI:AV->Option AV
 |.n k l=>if k<2 then some (.m l.length)else none
 |.s (.j s)=>if s.length<1000 then some (.m s.length)else none
 |_ =>none
noncomputable def x9(n:Nat)(l:List AV):List AV:=match n with
 |0=>[]
 |n+1=>l++x9 n l
def M9(a b:AV):Option AV:=match a with
 |.s (.m i)=>Cj (λj=>some (.m (i+j))) b
 |.s (.j s)=>Gv (λt=>if s.length+t.length<=10000 then some (.j (s++t))else none) b
 |.n 1 l=>I_ (λk=>if l.length+k.length<=10000 then some (.aj (l++k))else none) b
 |_ =>none
def Lo(a b:AV):Option AV:=match a with
 |.s (.m i)=>Cj (λj=>if i.natAbs<2^40/\j.natAbs<2^40 then some (.m (i*j))else none) b
 |.n 1 l=>Cj (λj=>if l.length*j.toNat<=10000/\j.natAbs<2^40 then some (.aj (x9 j.toNat l))else none) b
 |_ =>none
noncomputable def FP:AV->Option Int |.s (.m i)=>some i |_ =>none
noncomputable def lP{A:Type}(l:List A)(B C:Option Int):List A:=(l.drop (B.elim 0 (PySem.clipAt l.length))).take (C.elim l.length (PySem.clipAt l.length)-B.elim 0 (PySem.clipAt l.length))
def vh(v:AV)(B A:Option Int):Option AV:=match v with
 |.n 1 l=>some (.aj (lP l B A))
 |.n 0 l=>(match B,A with
  |some i,none=>if 0<=i/\i<=l.length then some (.tup (l.drop i.toNat))else none
  |_,_ =>none)
 |.s (.j s)=>(match B,A with
  |none,some i=>if PySem.clipAt s.length i<=1000 then some (.j ⟨(s.cps.toList.take (PySem.clipAt s.length i)).toArray⟩)else none
  |_,_ =>none)
 |_ =>none
def uF:Bool->List AV->Option (Option Int×List AV)
 |false,l=>some (none,l)
 |true,a::l=>(FP a).map λi=>(some i,l)
 |true,[]=>none
def GO(B A:Bool):List AV->Option AV
 |[]=>none
 |a::l=>(uF B l).bind λx=>(uF A x.2).bind λy=>match y.2 with |[]=>vh a x.1 y.1 |_ =>none
mutual
noncomputable def AV.data:AV->Option PyData
 |.s c=>(match c with
  |.r=>some .none
  |.u b=>some (.bool b)
  |.m i=>some (.int i)
  |.j x=>if PyData.strOk x then some (.str x)else Option.none
  |.fn _ =>Option.none)
 |.n k l=>(cb l).bind λds=>if k=0 then some (.tuple ds)else if k=1 then some (.list ds)else none
noncomputable def cb:List AV->Option (List PyData)
 |[]=>some []
 |a::l=>a.data.bind λd=>(cb l).map λA=>d::A
end
noncomputable def x8:AV->Option Str |.s (.j x)=>some x |_ =>none
def Uc(a b:AV):Option Bool:=a.data.bind λx=>b.data.bind λy=>if min x.depth y.depth<=50 then some (PyData.eqv x y)else none
def eqv(a b:AV):Option Bool:=match x8 a,x8 b with
 |some x,some y=>some (x==y)
 |_,_ =>Uc a b
def wY(v:AV):Option AV:=v.data.bind λd=>if d.showable/\d.depth<=50/\d.shown.length<=1000000 then some (.j d.shown)else none
noncomputable def p_:List AV->Option (List Str)
 |[]=>some []
 |a::l=>(x8 a).bind λx=>(p_ l).map λr=>x::r
def DR(x:AV)(l:List AV):Option Bool:=match x8 x,p_ l with
 |some s,some r=>some (r.any λy=>y==s)
 |_,_ =>x.data.bind λd=>(cb l).bind λA=>if min (PyData.depthAll A) d.depth<=50 then some (A.any λy=>PyData.eqv y d)else none
def AR(p:Int->Int->Bool)(a b:AV):Option Bool:=(FP a).bind λi=>(FP b).map (p i)
noncomputable def oE:AV->Bool |.s .r=>true |_ =>false
def Hp(x b:AV):Option Bool:=(dT b).bind λq=>if q.1<2 then DR x q.2 else none
def d_(o:IZ)(a b:AV):Option Bool:=match o with
 |.eq=>eqv a b
 |.ne=>(eqv a b).map (!·)
 |.lt=>AR (λi j=>decide (i<j)) a b
 |.le=>AR (λi j=>decide (i<=j)) a b
 |.gt=>AR (λi j=>decide (j<i)) a b
 |.ge=>AR (λi j=>decide (j<=i)) a b
 |.is=>if oE b then some (oE a)else none
 |.b=>if oE b then some (!oE a)else none
 |.c=>Hp a b
 |.a=>(Hp a b).map (!·)
def D4(k:Nat)(v:AV):Option AV:=match v with
 |.s .r=>if k<4 then some (.u false)else none
 |.s (.u _)=>if k<4 then some (.u (k==0 || k==1))else none
 |.s (.m _)=>if k<4 then some (.u (k==0))else none
 |.s (.j _)=>if k<4 then some (.u (k==3))else none
 |.s (.fn _)=>if k=2 then some (.u false)else none
 |.n k' _ =>if k'=0 then(if k<4 then some (.u (k==2))else none)else if 3<k/\k=k'+2 then some (.u true)else none
noncomputable def uQ:List AV->Option (List Int)
 |[]=>some []
 |a::l=>(FP a).bind λx=>(uQ l).map λr=>x::r
noncomputable def Ho(ns:List Int):Int:=ns.getD (PySem.argBest (λi j=>decide (ns.getD i 0<ns.getD j 0)) (ns.length-1)) 0
def Lz(l:List AV):Option AV:=(uQ l).bind λA=>if A=[]then none else some (.m (Ho A))
noncomputable def oH(d:PyData)(k:Nat):List PyData->Option Nat
 |[]=>none
 |y::r=>if PyData.eqv y d then some k else oH d (k+1) r
def AU(a x:AV):Option AV:=(mR a).bind λl=>x.data.bind λd=>(cb l).bind λA=>if min (PyData.depthAll A) d.depth<=50 then(oH d 0 A).map λ(k:Nat)=>.m (k:Int)else none
noncomputable def d9(n:Nat)(k:Int):List AV:=match n with
 |0=>[]
 |n+1=>.m k::d9 n (k+1)
noncomputable def i8(k:Int):List AV->List AV
 |[]=>[]
 |v::r=>.tup [.m k,v]::i8 (k+1) r
noncomputable def qG:List AV->List AV->List AV
 |a::r,b::t=>.tup [a,b]::qG r t
 |_,_ =>[]
def F2(s:Tx):List AV:=s.cps.toList.map λc=>.j ⟨#[c]⟩
def bz(k:IK)(vs:List AV):Option (List AV):=match k,vs with
 |.h,[a]=>(dT a).bind λq=>if q.1<2 then some q.2 else none
 |.range,[a]=>(FP a).bind λn=>if n.natAbs<=10000 then some (d9 n.toNat 0)else none
 |.d,[a]=>(match a with
  |.n 1 l=>some (i8 0 l)
  |.s (.j s)=>if s.length<=1000 then some (i8 0 (F2 s))else none
  |_ =>none)
 |.zip,[a,b]=>(mR a).bind λl=>(mR b).map λr=>qG l r
 |_,_ =>none
noncomputable def ft{A:Type}:List (Tx×A)->Tx->Option A
 |[],_ =>none
 |(k,v)::r,x=>if k=x then some v else ft r x
structure jn where
 M:List AV
 fns:Nat->Option (List IS×Nat×List AV×Nat×Nat)
 c:List (Tx×AV)
 b:List (Tx×Tx)
 meths:Nat->Nat->Option Nat
 a:Nat->Nat
 d:Nat
def hZ(G:jn)(o:Op)(vs:List AV):Option AV:=match o with
 |.G=>E3 M9 vs
 |.sub=>E3 (EU λi j=>some (.m (i-j))) vs
 |.a=>E3 Lo vs
 |.R=>E3 (EU λi j=>if 0<j then some (.m (i.fmod j))else none) vs
 |.fdiv=>E3 (EU λi j=>if 0<j/\j<2^40 then some (.m (i.fdiv j))else none) vs
 |.pow=>E3 (EU λi j=>if(1<j/\j<=100)/\1<i/\i<2^64 then some (.m (i^j.toNat))else none) vs
 |.l=>xO (Cj λi=>some (.m (-i))) vs
 |.not=>xO (Nz λb=>.u (!b)) vs
 |.E=>xO LI vs
 |.A k i=>xO (M6 k i) vs
 |.Q=>E3 LZ vs
 |.f lo hi=>GO lo hi vs
 |.tup=>some (.tup vs)
 |.aj=>some (.aj vs)
 |.w=>E3 (λa b=>(dT b).bind λq=>if q.1<2/\q.2.length<1000 then some (.aj (a::q.2))else none) vs
 |.h k=>xO (D4 k) vs
 |.c=>xO (λa=>match a with |.s (.j s)=>some (.j s)|.s (.m i)=>if i.natAbs<10^30 then some (.j (Str.ofString (toString i)))else none |_ =>none) vs
 |.d=>xO (Nz λb=>.m (if b then 1 else 0)) vs
 |.repr=>xO wY vs
 |.abs=>xO (Cj λi=>some (.m i.natAbs)) vs
 |.min=>xO (I_ Lz) vs
 |.index=>E3 AU vs
 |.b=>xO (I_ λl=>some (.aj l)) vs
 |.cY=>xO (Gv λs=>ft G.c s) vs
 |.n=>xO (Gv λs=>some (.j ((ft G.b s).getD ⟨#[]⟩))) vs
 |.j=>xO (Gv λs=>some (.u (ft G.c s).isNone)) vs
noncomputable def cJ:List Nat->List SV->List SV->aD (List SV)
 |[],[],ah=>.oK ah
 |x::xs,v::vs,ah=>(aV ah x v).i (cJ xs vs)
 |_,_,_ =>.aA
def aN(tg:List Nat)(tup:Bool)(v:AV)(ah:List SV):aD (List SV):=if tup then(match v with
 |.n k vs=>if k<2 then cJ tg (vs.map .h) ah else .aA
 |.s _ =>.aA)else cJ tg [.h v] ah
noncomputable def gA:List Nat->List SV->List SV
 |[],ah=>ah
 |x::xs,ah=>gA xs (ah.set x .a)
noncomputable def compLoop(A:AV->List SV->aD (List SV))(cond:List SV->aD (AV×List SV))(elt:List SV->aD (AV×List SV)):List AV->List AV->List SV->aD (List AV×List SV)
 |[],acc,B=>.oK (acc,B)
 |v::r,acc,B=>(A v B).i λB=>(cond B).i λx=>(c_ x.1).i λb=>
  if b then(elt x.2).i λy=>compLoop A cond elt r (acc++[y.1]) y.2 else compLoop A cond elt r acc x.2
noncomputable def cE:List Nat->List SV->aD (List SV)
 |[],_ =>.oK []
 |x::xs,ah=>match ah[x]? with
  |none=>.aA
  |some s=>(match s with
   |.a=>.aA
   |v=>(cE xs ah).i λr=>.oK (v::r))
def qp(w:AV):SV:=match w with |.n 1 l=>.aj l |w=>.h w
noncomputable def kindS:SV->Option Nat |.e k _ =>some k |_ =>none
def DC(f:CK)(ios:List Nat)(ah:List SV):aD (List SV):=match f with
 |.sm c _ =>(match ios with
  |[x]=>if(ah[x]?).bind kindS=some (c+2)then cE [x] ah else .aA
  |_ =>.aA)
 |_ =>cE ios ah
noncomputable def c6{A:Type}(r:aD A):aD A:=match r with |.bG=>.aA |r=>r
def E0{A:Type}(f:CK)(r:aD A):aD A:=match f with
 |.P _ =>c6 r
 |.h=>c6 r
 |_ =>r
section
variable (G:jn)
variable (call:Nat->List SV->aD (SV×List SV))
def e_(f:Nat)(ios:List Nat)(vs:List AV)(ah:List SV):aD (SV×List SV):=
 (cE ios ah).i λA=>(call f (A++vs.map .h)).i λr=>(cJ ios r.2 ah).i λah=>.oK (r.1,ah)
noncomputable def Ll:SV->aD SV |.a=>.aA |s=>.oK s
def Ar(c:Nat)(vs:List AV):aD SV:=(call (G.a c) (.e (c+2) []::vs.map .h)).i λr=>if oE (r.1.q.getD (.m 0))then(match r.2 with
 |[s]=>Ll s
 |_ =>.aA)else .aA
def lF(ck:CK)(ios:List Nat)(vs:List AV)(ah:List SV):aD (SV×List SV):=match ck with
 |.fn f=>e_ call f ios vs ah
 |.sm _ f=>e_ call f ios vs ah
 |.h=>(match vs with
  |[]=>.aA
  |a::r=>(match a with
   |.s (.fn f)=>e_ call f ios r ah
   |_ =>.aA))
 |.new c=>(Ar G call c vs).i λr=>.oK (r,ah)
 |.P m=>(match vs with
  |[]=>.aA
  |a::_ =>(aD.d ((dT a).bind λq=>G.meths m q.1)).i λf=>e_ call f ios vs ah)
mutual
noncomputable def ev:IE->List SV->aD (AV×List SV)
 |.d c,ah=>.oK (.s c,ah)
 |.M i,ah=>(aD.d G.M[i]?).i λv=>.oK (v,ah)
 |.H x p,ah=>aD.d (Fq ah x p)
 |.at x p e,ah=>(aD.d (eY ah x p)).i λz=>(ev e ah).i λb=>(intOf b.1).i λi=>(aD.d (eY b.2 x p)).i λl=>(aD.d ((b_ l.length i).bind λk=>l[k]?)).i λw=>.oK (w,b.2)
 |.O x p,ah=>(aD.d (eY ah x p)).i λl=>.oK (.m l.length,ah)
 |.P x p,ah=>(aD.d (eY ah x p)).i λl=>(aD.d l.getLast?).i λw=>.oK (w,iN ah x p l.dropLast)
 |.op o es,ah=>(bu es ah).i λb=>(aD.d (hZ G o b.1)).i λw=>.oK (w,b.2)
 |.I a os es,ah=>(ev a ah).i λb=>gp b.1 os es b.2
 |.and es,ah=>bO true es ah
 |.or es,ah=>bO false es ah
 |.L t a b,ah=>(ev t ah).i λx=>(c_ x.1).i λc=>if c then ev a x.2 else ev b x.2
 |.B elt tg tup k es cond,ah=>(bu es ah).i λb=>(aD.d (bz k b.1)).i λA=>
  (c6 (compLoop (aN tg tup) (bO true cond) (ev elt) A [] b.2)).i λr=>.oK (.aj r.1,gA tg r.2)
 |.K f ios es,ah=>(DC f ios ah).i λz=>(E0 f (bu es ah)).i λb=>(lF G call f ios b.1 b.2).i λr=>(aD.d r.1.q).i λw=>.oK (w,r.2)
noncomputable def bu:List IE->List SV->aD (List AV×List SV)
 |[],ah=>.oK ([],ah)
 |e::es,ah=>(ev e ah).i λb=>(bu es b.2).i λr=>.oK (b.1::r.1,r.2)
noncomputable def gp:AV->List IZ->List IE->List SV->aD (AV×List SV)
 |_,_,[],_ =>.aA
 |a,os,e::es,ah=>match os with
  |[]=>.aA
  |o::os=>(ev e ah).i λb=>(aD.d (d_ o a b.1)).i λr=>match es with
   |[]=>.oK (.u r,b.2)
   |_ ::_ =>if r then gp b.1 os es b.2 else .oK (.u false,b.2)
noncomputable def bO(d:Bool):List IE->List SV->aD (AV×List SV)
 |[],ah=>.oK (.u d,ah)
 |e::es,ah=>(ev e ah).i λx=>(c_ x.1).i λb=>if b=d then bO d es x.2 else .oK (.u b,x.2)
end
def NX:IE->List SV->aD (SV×List SV)
 |.K f ios es,ah=>(DC f ios ah).i λz=>(E0 f (bu G call es ah)).i λb=>lF G call f ios b.1 b.2
 |e,ah=>(ev G call e ah).i λb=>.oK (qp b.1,b.2)
def H0(A:Bool)(e:IE)(ah:List SV):aD (SV×List SV):=if A then NX G call e ah else(ev G call e ah).i λb=>.oK (.h b.1,b.2)
noncomputable def yy:List (Bool×IE)->List SV->aD (List SV×List SV)
 |[],ah=>.oK ([],ah)
 |e::es,ah=>(H0 G call e.1 e.2 ah).i λb=>(yy es b.2).i λr=>.oK (b.1::r.1,r.2)
def H3:Option Nat×IE->List SV->aD (SF×List SV)
 |(none,e),ah=>(ev G call e ah).i λb=>.oK (.v b.1,b.2)
 |(some x,_),ah=>(aD.d (eY ah x none)).i λl=>.oK (.o l,ah.set x .a)
noncomputable def o8:List (Option Nat×IE)->List SV->aD (List SF×List SV)
 |[],ah=>.oK ([],ah)
 |e::es,ah=>(H3 G call e ah).i λb=>(o8 es b.2).i λr=>.oK (b.1::r.1,r.2)
def setAt(x:Nat)(p:mJ)(k v:AV)(ah:List SV):aD (List SV):=(intOf k).i λk=>(aD.d (eY ah x p)).i λl=>(aD.d (b_ l.length k)).i λj=>.oK (iN ah x p (l.set j v))
def kc(x:Nat)(p:mJ)(i:IE)(v:AV)(ah:List SV):aD (List SV):=(aD.d (eY ah x p)).i λz=>(ev G call i ah).i λb=>setAt x p b.1 v b.2
noncomputable def SV.toF:SV->Option SF |.f s=>some s |_ =>none
noncomputable def qg(k i:Nat)(ah:List SV):Option (List SF):=(ah[(0:Nat)]?).bind λs=>match s with
 |.e k' l=>if k'=k/\i=l.length then some l else none
 |_ =>none
noncomputable def forLoop(A:AV->List SV->aD (List SV))(body:List SV->aD (Fl×List SV)):List AV->List SV->aD (Fl×List SV)
 |[],B=>.oK (.a,B)
 |v::r,B=>(A v B).i λB=>(body B).i λb=>match b.1 with
  |.C w=>.oK (.C w,b.2)
  |_ =>forLoop A body r b.2
noncomputable def d0(A:List SV->aD (AV×List SV))(body:List SV->aD (Fl×List SV)):Nat->List SV->aD (Fl×List SV)
 |0,_ =>.aA
 |n+1,ah=>(A ah).i λx=>(c_ x.1).i λb=>if b then(body x.2).i λb=>match b.1 with
  |.C w=>.oK (.C w,b.2)
  |_ =>d0 A body n b.2 else .oK (.a,x.2)
noncomputable def pa{A:Type}(r r':aD A):aD A:=match r with |.bG=>r' |r=>r
mutual
noncomputable def eG:IS->List SV->aD (Fl×List SV)
 |.h x own e,A=>(H0 G call own e A).i λb=>(aV b.2 x b.1).i λA=>.oK (.a,A)
 |.r xs e,A=>(ev G call e A).i λb=>(aN xs true b.1 b.2).i λA=>.oK (.a,A)
 |.n rev xs es,A=>(yy G call es A).i λb=>(cJ (if rev then xs.reverse else xs) (if rev then b.1.reverse else b.1) b.2).i λA=>.oK (.a,A)
 |.set x p i e,A=>(ev G call e A).i λb=>(kc G call x p i b.1 b.2).i λA=>.oK (.a,A)
 |.A x i j e e',A=>(ev G call e A).i λb=>(ev G call e' b.2).i λc=>(kc G call x none i b.1 c.2).i λA=>(kc G call x none j c.1 A).i λA=>.oK (.a,A)
 |.G x k e,A=>(ev G call e A).i λb=>(aD.d (pQ b.2 x (some (1,k)))).i λz=>.oK (.a,b.2.set x (((b.2[x]?).getD .a).iN (some (1,k)) (.v b.1)))
 |.E k i own e,A=>(H0 G call own e A).i λb=>(aD.d (SV.toF b.1)).i λv=>(aD.d (qg k i b.2)).i λl=>.oK (.a,b.2.set 0 (.e k (l++[v])))
 |.I x p e,A=>(aD.d (eY A x p)).i λz=>(ev G call e A).i λb=>(aD.d (eY b.2 x p)).i λl=>if l.length<10000 then .oK (.a,iN b.2 x p (l++[b.1]))else .aA
 |.ex e,A=>(ev G call e A).i λb=>.oK (.a,b.2)
 |.d t b c,A=>(ev G call t A).i λx=>(c_ x.1).i λd=>if d then aG b x.2 else aG c x.2
 |.l tg tup k es body,A=>(bu G call es A).i λb=>(aD.d (bz k b.1)).i λB=>forLoop (aN tg tup) (λA=>aG body A) B b.2
 |.M t body,A=>d0 (ev G call t) (λA=>aG body A) G.d A
 |.C own e,A=>(H0 G call own e A).i λb=>.oK (.C b.1,b.2)
 |.F es,A=>(o8 G call es A).i λb=>.oK (.C (.e 1 b.1),b.2)
 |.q e,A=>(ev G call e A).i λb=>(strOf b.1).i λz=>.bG
 |.o e e',A=>(pa (ev G call e A) (ev G call e' A)).i λb=>.oK (.C (.h b.1),b.2)
 |.cont,A=>.oK (.cont,A)
 |.a xs,A=>.oK (.a,gA xs A)
noncomputable def aG:List IS->List SV->aD (Fl×List SV)
 |[],ah=>.oK (.a,ah)
 |s::r,ah=>(eG s ah).i λb=>match b.1 with
  |.a=>aG r b.2
  |f=>.oK (f,b.2)
end
end
noncomputable def jx(n:Nat)(l:List SV):List SV:=l++List.replicate (n-l.length) .a
noncomputable def jq:Nat->List SV->List SV
 |0,_ =>[]
 |n+1,[]=>.a::jq n []
 |n+1,v::l=>v::jq n l
def wX:Fl->SV |.C v=>v |_ =>.h .r
noncomputable def aa(G:jn):Nat->Nat->List SV->aD (SV×List SV)
 |0,_,_ =>.aA
 |n+1,f,args=>(aD.d (G.fns f)).i λd=>
  if args.length<=d.2.1/\d.2.1<=args.length+d.2.2.1.length then
   (aG G (aa G n) d.1 (jx d.2.2.2.1 (args++(d.2.2.1.drop (args.length+d.2.2.1.length-d.2.1)).map .h))).i λb=>.oK (wX b.1,jq d.2.2.2.2 b.2)
  else .aA
end Mine
namespace Mine
def v8:List IS:=[.E 2 0 false (.r 1),.E 2 1 false (.r 2),.E 2 2 false (.r 3),.E 2 3 false (.r 4),.E 2 4 false (.r 5)]
def lA:List IS:=[.y (.K (.new 0) [] [.a 2 0 [.r 0],.r 1,.a 2 2 [.r 0],.a 2 3 [.r 0],.a 2 4 [.r 0]])]
def rI:List IS:=[.E 3 0 false (.r 1),.E 3 1 false (.r 2),.E 3 2 false (.r 3),.E 3 3 false (.r 4),.E 3 4 false (.r 5)]
def oZ:List IS:=[.y (.I (.a 3 1 [.r 0]) [.le,.lt] [.r 1,.a 3 2 [.r 0]])]
def uk:List IS:=[.E 4 0 false (.r 1),.E 4 1 false (.r 2),.E 4 2 false (.r 3),.E 4 3 false (.r 4),.E 4 4 false (.r 5),.E 4 5 false (.r 6),.E 4 6 false (.r 7),.E 4 7 false (.r 8),.E 4 8 false (.d .r)]
def mh:List IS:=[.y (.K (.new 2) [] [.a 4 0 [.r 0],.a 4 1 [.r 0],.a 4 2 [.r 0],.a 4 3 [.r 0],.r 1,.r 2,.r 4,.r 3])]
def Ep:List IS:=[.y (.L (.q (.r 0) (.op .l [.i 1])) (.i 1) (.r 0))]
def Bd:List IS:=[.y (.L (.q (.r 0) (.t Kl)) (.i 1) (.i 0))]
def pS:List IS:=[.y (.u [.p [.a 2 1 [.r 0],.i 1],.p [.a 2 1 [.r 0],.i 2]])]
def pU:List IS:=[.y (.u [.a 2 1 [.r 0],.i 1])]
def oS:List IS:=[.y (.u [.op .a [.i 2,.a 2 1 [.r 0]],.i 1])]
def pT:List IS:=[.y (.u [.p [.p [.i 1,.h 6 [.a 2 2 [.r 0]]],.h 7 [.x [.a 2 3 [.r 0],.i 1]]],.i 1])]
def oU:List IS:=[.y (.u [.p [.h 6 [.a 2 1 [.r 0]],.h 7 [.a 2 2 [.r 0]]],.i 1])]
def nt:List IS:=[.y (.u [.h 7 [.a 2 1 [.r 0]],.i 1])]
def oO:List IS:=[.y (.u [.h 6 [.a 2 1 [.r 0]],.i 1])]
def oW:List IS:=[.y (.u [.L (.a 2 3 [.r 0]) (.i 1) (.i 0),.i 1])]
def l_:List IS:=[.y (.u [.L (.w (.a 2 1 [.r 0]) (.M 6)) (.i 1) (.i 0),.i 1])]
def lz:List IS:=[.y (.u [.i 1,.p [.p [.a 2 1 [.r 0],.L (.I (.a 2 2 [.r 0]) [.is] [.d .r]) (.i 0) (.i 1)],.a 2 3 [.r 0]]])]
def uj:List IS:=[.h 1 false (.op .cY [.a 2 0 [.r 0]]),.y (.L (.op (.h 2) [.r 1]) (.r 1) (.K .h [] [.r 1,.r 0]))]
def vY:List IS:=[.y (.and [.op (.h 0) [.r 0],.o [.op (.h 1) [.r 0]]])]
def v5:List IS:=[.d (.or [.I (.r 0) [.is] [.d .r],.q (.r 0) (.t Kl)]) [.y (.d (.u true))] [],.y (.and [.op (.h 2) [.r 0],.q (.n [.r 0]) (.i 2),.q (.x [.r 0,.i 0]) (.t x6),.h 19 [.x [.r 0,.i 1]]])]
def yx:List IS:=[.d (.q (.a 2 0 [.r 0]) (.t qO)) [.y (.w (.r 1) (.M 3))] [],.d (.q (.a 2 0 [.r 0]) (.t G3)) [.y (.w (.r 1) (.M 7))] [],.y (.and [.op (.h 2) [.r 1],.q (.n [.r 1]) (.i 2),.w (.x [.r 1,.i 0]) (.M 2),.h 20 [.x [.r 1,.i 1]]])]
def rG:List IS:=[.d (.w (.r 1) (.u [.d (.j ⟨#[110]⟩),.d (.j ⟨#[116]⟩)])) [.y (.op (.h 3) [.r 2])] [],.d (.w (.r 1) (.u [.d (.j ⟨#[99]⟩),.d (.j ⟨#[112]⟩)])) [.y (.and [.h 19 [.r 2],.I (.r 2) [.ge] [.i 0]])] [],.d (.q (.r 1) (.d (.j ⟨#[97]⟩))) [.y (.and [.h 19 [.r 2],.I (.r 2) [.ge] [.op .l [.i 1]]])] [],.d (.q (.r 1) (.d (.j ⟨#[105]⟩))) [.y (.h 19 [.r 2])] [],.d (.q (.r 1) (.d (.j ⟨#[102]⟩))) [.y (.op (.h 1) [.r 2])] [],.d (.q (.r 1) (.d (.j ⟨#[114]⟩))) [.y (.or [.I (.r 2) [.is] [.d .r],.q (.r 2) (.i 1)])] [],.d (.q (.r 1) (.d (.j ⟨#[107]⟩))) [.y (.M 99)] [],.d (.q (.r 1) (.d (.j ⟨#[98]⟩))) [.y (.h 20 [.r 2])] [],.y (.L (.q (.r 1) (.d (.j ⟨#[115]⟩))) (.h 21 [.r 0,.r 2]) (.d (.u true)))]
def v7:List IS:=[.d (.q (.a 2 0 [.r 0]) (.t zI)) [.y (.u [.a 2 1 [.r 0],.t yV])] [],.d (.w (.a 2 0 [.r 0]) (.u [.t sV,.t GY])) [.y (.u [.a 2 2 [.r 0],.t x7])] [],.d (.w (.a 2 0 [.r 0]) (.u [.t x5,.t G2])) [.y (.u [.a 2 2 [.r 0],.t x5])] [],.d (.q (.a 2 0 [.r 0]) (.t G0)) [.y (.u [.a 2 1 [.r 0],.t x5])] [],.h 1 false (.d .r),.d (.q (.a 2 0 [.r 0]) (.t sW)) [.h 1 false (.x [.a 2 3 [.r 0],.i 1])] [.d (.q (.a 2 0 [.r 0]) (.t Df)) [.h 1 false (.a 2 2 [.r 0])] [.d (.q (.a 2 0 [.r 0]) (.t G1)) [.h 1 false (.a 2 1 [.r 0])] []]],.y (.L (.op (.h 2) [.r 1]) (.u [.x [.r 1,.i 1],.t yV]) (.d .r))]
def nA:List IS:=[.E 5 0 false (.r 1),.E 5 1 false (.L (.q (.a 4 0 [.r 1]) (.t yV)) (.op .w [.r 1,.r 2]) (.l [.r 1])),.E 5 2 true (.op .a [.l [.d .r],.n [.a 4 4 [.r 1]]]),.E 5 3 true (.l [])]
def nE:List IS:=[.q (.p [.p [.p [.p [.op .c [.a 4 1 [.H 0 (some (5,0))]],.t Kq],.op .c [.r 1]],.t J'],.r 2])]
def mf:List IS:=[.d (.or [.o [.h 19 [.r 1]],.o [.I (.i 0) [.le,.lt] [.r 1,.n [.a 4 4 [.H 0 (some (5,0))]]]]]) [.ex (.K (.sm 3 25) [0] [.r 3,.d (.j "goes on beyond the rows")])] [],.h 4 false (.at 0 (some (5,2)) (.r 1)),.d (.I (.r 4) [.is] [.d .r]) [.set 0 (some (5,2)) (.r 1) (.r 2),.I 0 (some (5,3)) (.r 1)] [.d (.I (.r 4) [.ne] [.r 2]) [.ex (.K (.sm 3 25) [0] [.r 1,.p [.p [.p [.d (.j "a stack of "),.op .c [.r 4]],.d (.j " and of ")],.op .c [.r 2]]])] []]]
def jI:List IS:=[.d (.or [.o [.op (.h 4) [.r 2]],.o [.op (.h 3) [.a 2 0 [.r 2]]],.op .j [.a 2 0 [.r 2]]]) [.ex (.K (.sm 3 25) [0] [.r 1,.d (.j "no such op")])] [],.n true [3,4] [(false,(.op .n [.a 2 0 [.r 2]])),(false,(.u [.a 2 1 [.r 2],.a 2 2 [.r 2],.a 2 3 [.r 2]]))],.l [5,6] true .d [.r 3] [.d (.o [.h 22 [.r 2,.r 6,.x [.r 4,.r 5]]]) [.ex (.K (.sm 3 25) [0] [.r 1,.p [.p [.a 2 0 [.r 2],.d (.j ": operand ")],.op .c [.r 5]]])] []],.d (.I (.B (.r 7) [7] false .h [.op (.f true false) [.r 4,.n [.r 3]]] [.I (.r 7) [.b] [.d .r]]) [.ne] [.l []]) [.ex (.K (.sm 3 25) [0] [.r 1,.p [.a 2 0 [.r 2],.d (.j ": too many operands")]])] [],.d (.and [.w (.a 2 0 [.r 2]) (.M 4),.I (.a 2 1 [.r 2]) [.ge] [.n [.a 4 4 [.H 0 (some (5,0))]]]]) [.ex (.K (.sm 3 25) [0] [.r 1,.d (.j "jumps beyond the rows")])] []]
def ji:List IS:=[.d (.or [.I (.a 2 1 [.r 2]) [.ge] [.n [.H 0 (some (5,1))]],.I (.a 2 2 [.r 2]) [.ge] [.n [.a 4 3 [.x [.H 0 (some (5,1)),.a 2 1 [.r 2]]]]]]) [.ex (.K (.sm 3 25) [0] [.r 1,.d (.j "no such slot")])] []]
def jj:List IS:=[.h 3 false (.h 23 [.r 2]),.d (.I (.r 3) [.b] [.d .r]) [.r [4,5] (.r 3),.d (.or [.o [.I (.i 0) [.le,.lt] [.r 4,.n [.a 4 6 [.H 0 (some (5,0))]]]],.I (.a 4 0 [.x [.a 4 6 [.H 0 (some (5,0))],.r 4]]) [.ne] [.r 5]]) [.ex (.K (.sm 3 25) [0] [.r 1,.d (.j "no such child")])] []] []]
def nz:List IS:=[.n true [2,3] [(false,(.x [.a 4 4 [.H 0 (some (5,0))],.r 1])),(false,(.at 0 (some (5,2)) (.r 1)))],.r [4,5] (.h 18 [.r 2]),.d (.I (.r 3) [.lt] [.r 4]) [.ex (.K (.sm 3 25) [0] [.r 1,.d (.j "the stack is too low")])] [],.d (.w (.a 2 0 [.r 2]) (.M 4)) [.ex (.K (.sm 3 26) [0] [.a 2 1 [.r 2],.p [.m [.r 3,.r 4],.r 5],.r 1])] [],.d (.I (.a 2 0 [.r 2]) [.a] [.M 5]) [.ex (.K (.sm 3 26) [0] [.p [.r 1,.i 1],.p [.m [.r 3,.r 4],.r 5],.r 1])] [],.l [6] false .h [.a 4 5 [.H 0 (some (5,0))]] [.d (.K (.P 0) [] [.r 6,.r 1]) [.d (.I (.r 3) [.lt] [.a 3 4 [.r 6]]) [.ex (.K (.sm 3 25) [0] [.r 1,.d (.j "the stack is lower than that of a catch")])] [],.ex (.K (.sm 3 26) [0] [.a 3 3 [.r 6],.p [.a 3 4 [.r 6],.i 1],.r 1])] []]]
def ix:List IS:=[.l [1] false .h [.a 4 5 [.H 0 (some (5,0))]] [.h 2 false (.n [.a 4 4 [.H 0 (some (5,0))]]),.h 3 false (.L (.op (.h 5) [.r 1]) (.l [.a 3 1 [.r 1],.a 3 2 [.r 1],.a 3 3 [.r 1],.a 3 4 [.r 1]]) (.l [.d .r])),.d (.or [.w (.d (.u false)) (.B (.h 19 [.r 4]) [4] false .h [.r 3] []),.I (.a 3 0 [.r 1]) [.a] [.M 1],.o [.I (.i 0) [.le,.lt,.le] [.x [.r 3,.i 0],.x [.r 3,.i 1],.r 2]]]) [.q (.p [.op .c [.a 4 1 [.H 0 (some (5,0))]],.d (.j ": what a catch covers")])] [],.d (.or [.o [.I (.i 0) [.le,.lt] [.a 3 3 [.r 1],.r 2]],.I (.a 3 4 [.r 1]) [.lt] [.i 0]]) [.q (.p [.op .c [.a 4 1 [.H 0 (some (5,0))]],.d (.j ": where a catch goes on")])] []]]
def oY:List IS:=[.d (.or [.I (.a 4 0 [.H 0 (some (5,0))]) [.a] [.M 0],.q (.n [.a 4 7 [.H 0 (some (5,0))]]) (.i 0)]) [.q (.d (.j "kind or starts of a code"))] [],.l [1,2] true .d [.a 4 4 [.H 0 (some (5,0))]] [.ex (.K (.sm 3 27) [0] [.r 1,.r 2]),.d (.w (.a 2 0 [.r 2]) (.u [.t xX,.t wU])) [.ex (.K (.sm 3 28) [0] [.r 1,.r 2])] [],.ex (.K (.sm 3 29) [0] [.r 1,.r 2])],.ex (.K (.sm 3 31) [0] []),.l [3] false .h [.a 4 7 [.H 0 (some (5,0))]] [.ex (.K (.sm 3 26) [0] [.r 3,.i 0,.r 3])],.M (.I (.O 0 (some (5,3))) [.gt] [.i 0]) [.ex (.K (.sm 3 30) [0] [.P 0 (some (5,3))])]]
def rH:List IS:=[.h 2 true (.K (.new 3) [] [.r 0,.r 1]),.d (.I (.B (.r 4) [4] false .h [.a 4 6 [.r 0]] [.o [.op (.h 6) [.r 4]]]) [.ne] [.l []]) [.q (.p [.op .c [.a 4 1 [.r 0]],.d (.j ": a child that is no code")])] [],.ex (.K (.sm 3 32) [2] []),.l [3] false .h [.a 4 6 [.r 0]] [.ex (.h 33 [.r 3,.L (.q (.a 4 0 [.r 3]) (.t yV)) (.a 5 1 [.r 2]) (.u [])])],.y (.a 5 2 [.r 2])]
def Eo:List IS:=[.y (.and [.I (.r 0) [.b] [.d .r],.w (.a 2 0 [.r 0]) (.r 1)])]
def Em:List IS:=[.y (.and [.I (.r 0) [.b] [.d .r],.o [.and [.op (.h 1) [.r 0],.o [.r 0]]]])]
def vK:List IS:=[.h 1 true (.op .a [.l [.d (.u false)],.p [.n [.a 4 4 [.r 0]],.i 1]]),.l [2] false .h [.a 4 4 [.r 0]] [.d (.w (.a 2 0 [.r 2]) (.M 4)) [.set 1 none (.a 2 1 [.r 2]) (.d (.u true))] []],.l [3] false .h [.a 4 5 [.r 0]] [.set 1 none (.a 3 3 [.r 3]) (.d (.u true))],.l [4] false .h [.a 4 7 [.r 0]] [.set 1 none (.r 4) (.d (.u true))],.y (.r 1)]
def yp:List IS:=[.n false [2,3] [(true,(.l [])),(true,(.l []))],.l [4] false .h [.r 1] [.I 2 none (.O 3 none),.d (.I (.r 4) [.b] [.d .r]) [.I 3 none (.r 4)] []],.I 2 none (.O 3 none),.h 3 false (.B (.L (.w (.a 2 0 [.r 9]) (.M 4)) (.K (.P 10) [] [.r 9,.at 2 none (.a 2 1 [.r 9])]) (.r 9)) [9] false .h [.r 3] []),.h 5 true (.l []),.l [6] false .h [.a 4 5 [.r 0]] [.n true [7,8] [(false,(.at 2 none (.a 3 1 [.r 6]))),(false,(.at 2 none (.a 3 2 [.r 6])))],.d (.I (.r 7) [.lt] [.r 8]) [.I 5 none (.K (.new 1) [] [.a 3 0 [.r 6],.r 7,.r 8,.at 2 none (.a 3 3 [.r 6]),.a 3 4 [.r 6]])] []],.y (.K (.P 9) [] [.r 0,.r 3,.r 5,.B (.at 2 none (.r 10)) [10] false .h [.a 4 7 [.r 0]] [],.a 4 6 [.r 0]])]
def oV:List IS:=[.h 2 false (.r 1),.l [3] false .range [.n [.a 4 4 [.r 0]]] [.d (.I (.a 2 0 [.x [.a 4 4 [.r 0],.r 2]]) [.ne] [.t pH]) [.y (.r 2)] [],.h 2 false (.a 2 1 [.x [.a 4 4 [.r 0],.r 2]])],.y (.r 1)]
def vJ:List IS:=[.h 1 true (.l []),.l [2] false .h [.a 4 4 [.r 0]] [.d (.I (.a 2 0 [.r 2]) [.a] [.M 4]) [.I 1 none (.r 2),.cont] [],.h 3 false (.h 38 [.r 0,.a 2 1 [.r 2]]),.d (.and [.q (.a 2 0 [.r 2]) (.t pH),.q (.a 2 0 [.x [.a 4 4 [.r 0],.r 3]]) (.t zC)]) [.I 1 none (.K (.new 0) [] [.t zC,.d .r,.d .r,.d .r,.a 2 4 [.r 2]])] [.I 1 none (.K (.P 10) [] [.r 2,.r 3])]],.y (.h 37 [.r 0,.r 1])]
def yn:List IS:=[.h 1 true (.op .a [.l [.d (.u false)],.n [.a 4 4 [.r 0]]]),.h 2 true (.op .b [.a 4 7 [.r 0]]),.M (.I (.O 2 none) [.gt] [.i 0]) [.h 3 false (.P 2 none),.d (.at 1 none (.r 3)) [.cont] [],.set 1 none (.r 3) (.d (.u true)),.h 4 false (.x [.a 4 4 [.r 0],.r 3]),.d (.w (.a 2 0 [.r 4]) (.M 4)) [.I 2 none (.a 2 1 [.r 4])] [],.d (.I (.a 2 0 [.r 4]) [.a] [.M 5]) [.I 2 none (.p [.r 3,.i 1])] [],.l [5] false .h [.a 4 5 [.r 0]] [.d (.K (.P 0) [] [.r 5,.r 3]) [.I 2 none (.a 3 3 [.r 5])] []]],.y (.r 1)]
def oP:List IS:=[.y (.h 37 [.r 0,.B (.L (.r 2) (.r 1) (.d .r)) [1,2] true .zip [.a 4 4 [.r 0],.h 40 [.r 0]] []])]
def lZ:List IS:=[.n true [1,2] [(true,(.op .b [.a 4 4 [.r 0]])),(false,(.h 36 [.r 0]))],.l [3] false .range [.m [.O 1 none,.i 1]] [.d (.and [.h 34 [.at 1 none (.r 3),.M 9],.h 34 [.at 1 none (.p [.r 3,.i 1]),.u [.t n9]],.o [.x [.r 2,.p [.r 3,.i 1]]]]) [.A 1 (.r 3) (.p [.r 3,.i 1]) (.d .r) (.d .r)] []],.y (.h 37 [.r 0,.r 1])]
def l9:List IS:=[.n true [1,2] [(true,(.op .b [.a 4 4 [.r 0]])),(false,(.h 36 [.r 0]))],.l [3] false .range [.m [.O 1 none,.i 2]] [.d (.and [.h 34 [.at 1 none (.r 3),.u [.t qN]],.h 34 [.at 1 none (.p [.r 3,.i 1]),.M 10],.h 34 [.at 1 none (.p [.r 3,.i 2]),.u [.t n9]]]) [.d (.and [.o [.x [.r 2,.p [.r 3,.i 1]]],.o [.x [.r 2,.p [.r 3,.i 2]]]]) [.A 1 (.r 3) (.p [.r 3,.i 2]) (.d .r) (.d .r)] []] []],.y (.h 37 [.r 0,.r 1])]
def vZ:List IS:=[.y (.q (.h 35 [.r 1]) (.q (.a 2 0 [.r 0]) (.t wV)))]
def jh:List IS:=[.n true [1,2] [(true,(.op .b [.a 4 4 [.r 0]])),(false,(.h 36 [.r 0]))],.l [3] false .range [.m [.O 1 none,.i 1]] [.n true [4,5] [(false,(.at 1 none (.r 3))),(false,(.at 1 none (.p [.r 3,.i 1])))],.d (.or [.o [.h 34 [.r 4,.u [.t qV]]],.I (.r 5) [.is] [.d .r],.x [.r 2,.p [.r 3,.i 1]]]) [.cont] [],.d (.w (.a 2 0 [.r 5]) (.M 11)) [.h 6 false (.h 44 [.r 5,.a 2 1 [.r 4]]),.set 1 none (.r 3) (.d .r),.set 1 none (.p [.r 3,.i 1]) (.L (.r 6) (.K (.new 0) [] [.t pH,.a 2 1 [.r 5],.d .r,.d .r,.a 2 4 [.r 5]]) (.d .r))] [.d (.and [.q (.a 2 0 [.r 5]) (.t pH),.w (.a 2 0 [.x [.a 4 4 [.r 0],.a 2 1 [.r 5]]]) (.M 11)]) [.h 7 false (.x [.a 4 4 [.r 0],.a 2 1 [.r 5]]),.h 8 false (.L (.h 44 [.r 7,.a 2 1 [.r 4]]) (.a 2 1 [.r 7]) (.p [.a 2 1 [.r 5],.i 1])),.set 1 none (.r 3) (.d .r),.set 1 none (.p [.r 3,.i 1]) (.K (.P 10) [] [.r 5,.r 8])] []]],.y (.h 37 [.r 0,.r 1])]
def iW:List IS:=[.n true [1,2] [(true,(.op .b [.a 4 4 [.r 0]])),(false,(.h 36 [.r 0]))],.l [3] false .range [.m [.O 1 none,.i 1]] [.n true [4,5] [(false,(.at 1 none (.r 3))),(false,(.at 1 none (.p [.r 3,.i 1])))],.d (.and [.h 34 [.r 4,.M 11],.h 34 [.r 5,.u [.t pH]],.q (.a 2 1 [.r 4]) (.p [.r 3,.i 2]),.o [.x [.r 2,.p [.r 3,.i 1]]]]) [.h 6 false (.L (.q (.a 2 0 [.r 4]) (.t wV)) (.t yW) (.t wV)),.A 1 (.r 3) (.p [.r 3,.i 1]) (.K (.new 0) [] [.r 6,.a 2 1 [.r 5],.d .r,.d .r,.a 2 4 [.r 4]]) (.d .r)] []],.y (.h 37 [.r 0,.r 1])]
def jg:List IS:=[.h 1 true (.l []),.l [2,3] true .d [.a 4 4 [.r 0]] [.d (.and [.w (.a 2 0 [.r 3]) (.M 4),.q (.a 2 1 [.r 3]) (.p [.r 2,.i 1])]) [.I 1 none (.L (.w (.a 2 0 [.r 3]) (.M 11)) (.K (.new 0) [] [.t n9,.d .r,.d .r,.d .r,.a 2 4 [.r 3]]) (.d .r))] [.I 1 none (.r 3)]],.y (.h 37 [.r 0,.r 1])]
def nu:List IS:=[.n true [1,2] [(true,(.op .b [.a 4 4 [.r 0]])),(false,(.h 36 [.r 0]))],.l [3] false .range [.m [.O 1 none,.i 1]] [.d (.or [.o [.h 34 [.at 1 none (.p [.r 3,.i 1]),.u [.t qP]]],.x [.r 2,.p [.r 3,.i 1]]]) [.cont] [],.d (.h 34 [.at 1 none (.r 3),.u [.t qP]]) [.A 1 (.r 3) (.p [.r 3,.i 1]) (.d .r) (.d .r)] [.d (.h 34 [.at 1 none (.r 3),.u [.t qN]]) [.set 1 none (.p [.r 3,.i 1]) (.d .r)] []]],.y (.h 37 [.r 0,.r 1])]
def En:List IS:=[.y (.B (.u [.a 2 0 [.r 1],.a 2 1 [.r 1],.a 2 2 [.r 1],.a 2 3 [.r 1]]) [1] false .h [.a 4 4 [.r 0]] [])]
def oQ:List IS:=[.l [1] false .range [.M 8] [.h 2 false (.h 49 [.r 0]),.l [3,4] true .h [.M 12] [.h 0 false (.K .h [] [.r 4,.r 0])],.d (.q (.h 49 [.r 0]) (.r 2)) [.y (.r 0)] []],.y (.r 0)]
def HW:List IS:=[.h 1 false (.h 50 [.r 0]),.y (.K (.P 9) [] [.r 1,.a 4 4 [.r 1],.a 4 5 [.r 1],.a 4 7 [.r 1],.B (.h 51 [.r 2]) [2] false .h [.a 4 6 [.r 1]] []])]
def rC:List IS:=[.l [1,2] true .h [.M 12] [.d (.q (.r 1) (.r 0)) [.y (.r 2)] []],.y (.d .r)]
def t_:List IS:=[.l [2] false .h [.r 1] [.h 3 false (.h 52 [.r 2]),.d (.I (.r 3) [.b] [.d .r]) [.h 0 false (.K .h [] [.r 3,.r 0])] []],.y (.K (.P 9) [] [.r 0,.a 4 4 [.r 0],.a 4 5 [.r 0],.a 4 7 [.r 0],.B (.h 53 [.r 4,.r 1]) [4] false .h [.a 4 6 [.r 0]] []])]
def yw:List IS:=[.n false [1,2] [(false,(.i 0)),(false,(.i 33023))],.l [3] false .h [.op (.f false true) [.r 0,.i 24]] [.d (.and [.q (.r 1) (.i 0),.I (.r 3) [.ge] [.op .pow [.i 10,.i 18]]]) [.h 1 false (.op .R [.m [.r 3,.op .pow [.i 10,.i 18]],.op .pow [.i 10,.i 90]])] [],.h 2 false (.op .R [.p [.op .a [.r 2,.i 48271],.r 3],.i 2147483629])],.C true (.l [.r 1,.r 2,.i 0,.or [.q (.r 0) (.l []),.and [.q (.n [.r 0]) (.i 1),.I (.op .abs [.x [.r 0,.i 0]]) [.lt] [.i 10]]],.i 0,.i 0])]
def vM:List IS:=[.d (.I (.at 0 none (.i 0)) [.gt] [.i 0]) [.h 2 false (.op .R [.at 0 none (.i 0),.r 1]),.set 0 none (.i 0) (.op .fdiv [.at 0 none (.i 0),.r 1]),.y (.r 2)] [],.set 0 none (.i 2) (.p [.at 0 none (.i 2),.i 1]),.h 3 false (.op .R [.op .pow [.p [.p [.at 0 none (.i 1),.op .a [.i 40169,.at 0 none (.i 2)]],.i 7],.i 5],.i 2147483647]),.h 3 false (.op .R [.op .pow [.p [.r 3,.op .a [.i 93001,.at 0 none (.i 2)]],.i 3],.i 2147483587]),.y (.op .R [.op .fdiv [.r 3,.i 16],.r 1])]
def vQ:List IS:=[.y (.x [.r 1,.k 55 [0] [.n [.r 1]]])]
def ue:List IS:=[.y (.l [.t Kf,.t Ke,.t Kd,.t Kc,.t Kb,.t J_,.d (.j ⟨#[67]⟩),.d (.j ⟨#[68]⟩),.d (.j ⟨#[69]⟩),.t Kg,.d (.j ⟨#[109]⟩),.t Ka,.d (.j ⟨#[112]⟩),.d (.j ⟨#[113]⟩),.d (.j ⟨#[116]⟩)])]
def vR:List IS:=[.y (.x [.h 57 [],.p [.op .a [.i 3,.r 1],.k 55 [0] [.i 3]]])]
def rD:List IS:=[.y (.L (.r 0) (.l [.d (.u true),.i 0,.d (.j ⟨#[]⟩),.d (.j ⟨#[115]⟩),.i 5,.t Ki]) (.l [.d .r,.d (.u false)]))]
def vX:List IS:=[.y (.u [.r 0,.r 1,.d .r,.d .r])]
def ug:List IS:=[.y (.h 60 [.t qV,.k 56 [0] [.h 59 [.q (.k 55 [0] [.i 2]) (.i 0)]]])]
def vO:List IS:=[.h 2 false (.k 55 [0] [.p [.i 1,.at 0 none (.i 4)]]),.y (.u [.r 1,.r 2,.k 55 [0] [.p [.m [.i 3,.at 0 none (.i 4)],.r 2]],.d .r])]
def yu:List IS:=[.h 2 false (.k 56 [0] [.p [.l [.t qV,.t xX,.t qU,.t qT,.t n_,.t zN],.op .a [.l [.t qN],.op .d [.I (.r 1) [.gt] [.i 0]]]]]),.d (.q (.r 2) (.t qV)) [.y (.k 61 [0] [])] [],.d (.q (.r 2) (.t xX)) [.y (.k 62 [0] [.r 2])] [],.y (.h 60 [.r 2,.L (.q (.op (.f false true) [.r 2,.i 3]) (.d (.j ⟨#[103,101,116]⟩))) (.k 58 [0] [.op .d [.q (.r 2) (.t qT)]]) (.d .r)])]
def ub:List IS:=[.h 1 false (.x [.l [.t wU,.t qS,.t qR,.t pI],.k 55 [0] [.L (.at 0 none (.i 3)) (.i 1) (.i 4)]]),.d (.q (.r 1) (.t wU)) [.y (.k 62 [0] [.r 1])] [],.y (.h 60 [.r 1,.k 58 [0] [.op .index [.l [.t qS,.t qR,.t pI],.r 1]]])]
def rF:List IS:=[.y (.h 60 [.k 56 [0] [.l [.t wV,.t yW]],.r 1])]
def yv:List IS:=[.h 2 true (.p [.l [.t pH,.t qQ,.t sX,.t m6,.t Kh],.op .a [.l [.t zI,.t sV],.at 0 none (.i 5)]]),.d (.I (.r 1) [.gt] [.i 0]) [.h 2 true (.p [.r 2,.l [.t wV,.t yW,.t vm,.t Kt,.t n9,.t zC,.t qO,.t sW]])] [],.d (.I (.r 1) [.gt] [.i 1]) [.I 2 none (.t qP)] [],.h 3 false (.k 56 [0] [.r 2]),.d (.q (.r 3) (.t Kh)) [.y (.k 63 [0] [.r 1])] [],.d (.q (.r 3) (.t Kt)) [.y (.k 64 [0] [])] [],.d (.q (.r 3) (.t zI)) [.y (.h 60 [.r 3,.i 0])] [],.d (.q (.r 3) (.t sV)) [.y (.u [.r 3,.k 58 [0] [.i 3],.i 1,.d .r])] [],.d (.q (.r 3) (.t m6)) [.y (.u [.r 3,.k 58 [0] [.i 2],.k 58 [0] [.i 4],.d .r])] [],.d (.q (.r 3) (.t qO)) [.y (.h 60 [.r 3,.k 56 [0] [.l [.t zJ,.t zM]]])] [],.d (.q (.r 3) (.t sW)) [.h 4 false (.L (.I (.at 0 none (.i 5)) [.gt] [.i 0]) (.u [.t x6,.i 0]) (.d .r)),.y (.u [.r 3,.k 58 [0] [.i 3],.i 0,.u [.k 56 [0] [.l [.t xZ,.t n_,.t xY]],.r 4]])] [],.y (.h 60 [.r 3,.L (.w (.r 3) (.l [.t qQ,.t sX])) (.k 58 [0] [.L (.q (.r 3) (.t qQ)) (.i 4) (.i 3)]) (.d .r)])]
def ud:List IS:=[.d (.I (.r 2) [.gt] [.i 7]) [.y (.l [.k 66 [0] [.r 1]])] [],.n true [3,4] [(false,(.k 63 [0] [.r 1])),(false,(.q (.k 55 [0] [.i 2]) (.i 1)))],.d (.q (.r 2) (.i 0)) [.y (.l [.r 3,.h 60 [.t n9]])] [],.d (.q (.r 2) (.i 1)) [.y (.l [.r 3,.h 60 [.t qN],.k 64 [0] [],.h 60 [.t n9]])] [],.d (.q (.r 2) (.i 2)) [.y (.p [.p [.l [.k 61 [0] []],.op .a [.l [.h 60 [.t pH,.i 1]],.op .d [.r 4]]],.l [.k 65 [0] [.d .r]]])] [],.d (.q (.r 2) (.i 3)) [.y (.l [.r 3,.k 65 [0] [.i 2],.h 60 [.t pH]])] [],.d (.q (.r 2) (.i 4)) [.y (.L (.r 4) (.l [.r 3,.k 65 [0] [.i 1]]) (.l [.h 60 [.t pH,.i 1]]))] [],.d (.q (.r 2) (.i 5)) [.y (.l [.h 60 [.t pH,.i 3],.r 3,.h 60 [.t n9]])] [],.d (.and [.q (.r 2) (.i 6),.r 4]) [.y (.l [.r 3,.h 60 [.t pH,.i 1],.h 60 [.t zC]])] [],.d (.q (.r 2) (.i 6)) [.y (.l [.h 60 [.t pH,.i 1],.h 60 [.t pH]])] [],.d (.r 4) [.y (.l [.r 3,.k 63 [0] [.p [.r 1,.i 1]],.h 60 [.t qP],.h 60 [.t qP]])] [],.y (.l [.r 3,.h 60 [.t qN],.h 60 [.t qP]])]
def rE:List IS:=[.d (.w (.r 0) (.l [.t n9,.t zC,.t qO,.t wU,.t qS,.t qR,.t pI,.t wV,.t yW])) [.y (.op .l [.i 1])] [],.y (.L (.w (.r 0) (.l [.t qP,.t pH,.t vm,.t m6,.t sW])) (.i 0) (.i 1))]
def vT:List IS:=[.l [4] false .h [.r 2] [.I 0 none (.r 4),.I 1 none (.r 3),.h 3 false (.p [.r 3,.h 68 [.x [.r 4,.i 0]]])],.y (.r 3)]
def vS:List IS:=[.h 2 false (.L (.at 0 none (.i 3)) (.i 2) (.k 55 [0] [.i 4])),.d (.q (.r 2) (.i 0)) [.y (.l [.h 60 [.t pH]])] [],.d (.and [.q (.r 2) (.i 1),.q (.r 1) (.i 0)]) [.y (.l [.u [.t m6,.k 58 [0] [.i 2],.k 58 [0] [.i 4],.d .r]])] [],.d (.I (.r 1) [.gt] [.i 0]) [.y (.l [.h 60 [.t zC]])] [],.d (.and [.q (.r 2) (.i 3),.I (.at 0 none (.i 5)) [.gt] [.i 0]]) [.y (.l [.x [.l [.h 60 [.t zI,.i 0],.u [.t sV,.k 58 [0] [.i 3],.i 1,.d .r]],.k 55 [0] [.i 2]],.h 60 [.t zC]])] [],.y (.l [.k 61 [0] [],.h 60 [.t zC]])]
def vU:List IS:=[.h 4 false (.m [.x [.r 2,.r 3],.op .d [.w (.x [.x [.r 1,.r 3],.i 0]) (.l [.t wV,.t yW])]]),.y (.k 56 [0] [.B (.r 5) [5] false .range [.n [.r 2]] [.q (.x [.r 2,.r 5]) (.r 4)]])]
def pW:List IS:=[.h 2 false (.B (.r 7) [7] false .range [.n [.r 1]] [.I (.x [.r 1,.r 7]) [.gt] [.i 0]]),.d (.or [.at 0 none (.i 3),.q (.r 2) (.l []),.q (.k 55 [0] [.i 2]) (.i 0)]) [.y (.l [])] [],.n true [3,4] [(false,(.k 56 [0] [.r 2])),(false,(.k 55 [0] [.n [.r 1]]))],.n true [5,6] [(false,(.p [.p [.r 4,.i 1],.k 55 [0] [.m [.n [.r 1],.r 4]]])),(false,(.k 56 [0] [.l [.t sY,.t sZ]]))],.d (.I (.op .min [.op (.f true true) [.r 1,.r 4,.r 5]]) [.lt] [.m [.x [.r 1,.r 3],.i 1]]) [.y (.l [])] [],.y (.l [.u [.r 6,.r 4,.r 5,.r 3,.m [.x [.r 1,.r 3],.i 1]]])]
def uc:List IS:=[.n false [5,6,7] [(true,(.l [])),(true,(.l [])),(false,(.i 0))],.l [8] false .range [.L (.at 0 none (.i 3)) (.i 1) (.i 3)] [.h 9 false (.k 67 [0] [.r 7,.L (.q (.r 8) (.i 0)) (.r 3) (.k 55 [0] [.i 11])]),.d (.I (.p [.O 5 none,.n [.r 9]]) [.le] [.r 2]) [.h 7 false (.k 69 [5,6] [.r 9,.r 7])] []],.ex (.k 69 [5,6] [.k 70 [0] [.r 7],.r 7]),.n true [10,11] [(true,(.l [])),(false,(.l [.i 0]))],.l [12,13] true .d [.r 5] [.r [14,15,16,17] (.r 13),.d (.q (.op (.f false true) [.r 14,.i 4]) (.t pH)) [.h 15 false (.L (.I (.r 15) [.is] [.d .r]) (.k 71 [0] [.r 5,.r 6,.r 12]) (.p [.r 12,.r 15]))] [],.I 10 none (.u [.r 14,.r 15,.r 16,.r 17,.p [.op .a [.i 10,.r 2],.r 12]])],.h 18 false (.k 72 [0] [.r 6]),.d (.and [.o [.at 0 none (.i 3)],.q (.k 55 [0] [.i 2]) (.i 0)]) [.h 11 false (.l [.k 56 [0] [.B (.r 20) [20] false .range [.n [.r 6]] [.q (.x [.r 6,.r 20]) (.i 0)]],.i 0])] [],.h 19 false (.op (.f true false) [.l [.d (.j ⟨#[112]⟩),.d (.j ⟨#[113]⟩),.d (.j ⟨#[116]⟩)],.op .d [.q (.r 1) (.t yV)]]),.F [(none,(.r 1)),(none,(.k 58 [0] [.i 3])),(none,(.k 58 [0] [.i 4])),(none,(.r 19)),(some 10,.d .r),(none,(.r 18)),(none,(.r 11)),(none,(.r 4))]]
def vW:List IS:=[.n true [2,3] [(false,(.k 55 [0] [.i 10])),(false,(.k 55 [0] [.m [.O 1 (some (1,4)),.i 1]]))],.h 4 false (.l [.h 60 [.t qU,.i 5],.u [.t xX,.i 0,.i 7,.d .r],.u [.t wU,.i 1,.i 0,.d .r],.h 60 [.t zI,.i 9]]),.h 4 false (.p [.r 4,.l [.h 60 [.t zI,.i 1],.h 60 [.t vl],.h 60 [.t qN],.h 60 [.t n9]]]),.d (.I (.r 2) [.lt] [.i 8]) [.r [5,6,7,8] (.x [.r 4,.r 2]),.set 1 (some (1,4)) (.r 3) (.u [.r 5,.r 6,.r 7,.r 8,.x [.at 1 (some (1,4)) (.r 3),.i 4]])] [.d (.and [.q (.r 2) (.i 8),.I (.H 1 (some (1,5))) [.ne] [.l []]]) [.r [9,10,11,12,13] (.x [.H 1 (some (1,5)),.i 0]),.G 1 5 (.l [.x [.l [.u [.t pJ,.r 10,.r 11,.r 12,.r 13],.u [.r 9,.r 10,.r 11,.r 12,.p [.r 13,.i 1]]],.k 55 [0] [.i 2]]])] [.d (.q (.r 2) (.i 8)) [.G 1 6 (.l [])] [.G 1 0 (.t zI)]]]]
def yr:List IS:=[.h 1 false (.l [.k 55 [0] [.i 2],.p [.i 1,.k 55 [0] [.i 2]],.p [.i 1,.k 55 [0] [.i 5]],.q (.k 55 [0] [.i 2]) (.i 0)]),.y (.p [.r 1,.l [.q (.k 55 [0] [.i 2]) (.i 0),.k 55 [0] [.i 3],.p [.i 300,.k 55 [0] [.i 100]]]])]
def Bf:List IS:=[.y (.m [.m [.r 0,.i 1],.op .R [.x [.r 1,.i 0],.m [.r 0,.i 1]]])]
def uf:List IS:=[.h 2 false (.h 57 []),.d (.I (.r 0) [.a] [.r 2]) [.y (.r 0)] [],.h 3 false (.op .index [.r 2,.r 0]),.h 4 false (.L (.and [.x [.r 1,.i 4],.I (.r 3) [.lt] [.i 6]]) (.m [.i 1,.op .fdiv [.r 3,.i 3]]) (.op .fdiv [.r 3,.i 3])),.y (.x [.r 2,.p [.op .a [.i 3,.r 4],.op .R [.p [.r 3,.x [.r 1,.i 1]],.i 3]]])]
def ua:List IS:=[.h 2 false (.I (.op .repr [.r 0]) [.a] [.l [.d (.j ⟨#[78,111,110,101]⟩),.d (.j ⟨#[70,97,108,115,101]⟩)]]),.h 3 false (.h 59 [.I (.r 2) [.ne] [.x [.r 1,.i 3]]]),.y (.x [.r 3,.op .R [.p [.op .index [.h 59 [.r 2],.r 0],.x [.r 1,.i 2]],.n [.r 3]]])]
def uh:List IS:=[.y (.L (.I (.r 0) [.lt] [.r 1]) (.op .R [.p [.r 0,.i 1],.r 1]) (.r 0))]
def vN:List IS:=[.l [2] false .h [.l [.l [.t xZ,.t n_,.t xY],.l [.t sY,.t sZ],.l [.t zJ,.t zM]]] [.d (.w (.r 0) (.r 2)) [.y (.x [.r 2,.op .R [.p [.op .index [.r 2,.r 0],.x [.r 1,.i 5]],.n [.r 2]]])] []],.y (.r 0)]
def Be:List IS:=[.h 2 false (.l [.u [.i 3,.t wV,.t yW],.u [.i 4,.t qU,.t qT],.u [.i 4,.t qS,.t qR],.u [.i 4,.t n_,.t zN]]),.l [3,4,5] true .h [.r 2] [.d (.and [.x [.r 1,.r 3],.w (.r 0) (.l [.r 4,.r 5])]) [.y (.L (.q (.r 0) (.r 4)) (.r 5) (.r 4))] []],.y (.r 0)]
def yt:List IS:=[.r [4,5,6,7,8] (.r 0),.d (.w (.r 4) (.l [.t xX,.t wU])) [.d (.and [.I (.r 5) [.lt] [.n [.r 2]],.I (.r 6) [.lt] [.x [.r 2,.r 5]]]) [.h 6 false (.op .R [.p [.r 6,.h 76 [.x [.r 2,.r 5],.r 1]],.x [.r 2,.r 5]])] []] [.d (.q (.r 4) (.t qV)) [.h 5 false (.h 78 [.r 5,.r 1])] [.d (.q (.r 4) (.t zI)) [.h 5 false (.h 79 [.r 5,.r 3])] [.d (.q (.r 4) (.t qO)) [.h 5 false (.h 80 [.r 5,.r 1])] [.n true [5,6] [(false,(.h 77 [.r 5,.r 1])),(false,(.L (.q (.r 4) (.t sV)) (.h 79 [.r 6,.r 3]) (.h 77 [.r 6,.r 1])))]]]]],.d (.q (.r 4) (.t sW)) [.h 7 false (.u [.h 80 [.x [.r 7,.i 0],.r 1],.L (.I (.x [.r 7,.i 1]) [.is] [.d .r]) (.x [.r 7,.i 1]) (.u [.t x6,.h 79 [.x [.x [.r 7,.i 1],.i 1],.r 3]])])] [],.y (.u [.h 81 [.r 4,.r 1],.r 5,.r 6,.r 7,.m [.x [.r 1,.i 6],.op .a [.i 3,.r 8]]])]
def pV:List IS:=[.r [3,4,5,6,7,8,9,10] (.r 0),.n false [11,12] [(false,(.p [.l [.n [.r 6]],.L (.q (.r 3) (.t yV)) (.r 2) (.l [])])),(false,(.h 76 [.n [.r 6],.r 1]))],.h 13 false (.B (.h 82 [.r 17,.r 1,.r 11,.n [.r 10]]) [17] false .h [.r 7] []),.h 14 false (.B (.u [.h 80 [.r 18,.r 1],.r 19,.r 20,.r 21,.r 22]) [18,19,20,21,22] true .h [.r 8] []),.h 15 false (.B (.h 83 [.r 23,.r 1,.r 11]) [23] false .h [.r 10] []),.h 16 false (.B (.h 77 [.r 24,.r 1]) [24] false .h [.p [.p [.l [.r 4,.r 5],.op (.f true false) [.r 6,.op .l [.r 12]]],.op (.f false true) [.r 6,.op .l [.r 12]]]] []),.y (.l [.r 3,.x [.r 16,.i 0],.x [.r 16,.i 1],.op (.f true false) [.r 16,.i 2],.r 13,.r 14,.r 9,.p [.op (.f true false) [.r 15,.op .l [.i 1]],.op (.f false true) [.r 15,.op .l [.i 1]]]])]
def vV:List IS:=[.r [1,2,3,4,5,6,7,8] (.r 0),.h 9 false (.B (.K (.new 0) [] [.r 11,.r 12,.r 13,.r 14,.r 15]) [11,12,13,14,15] true .h [.r 5] []),.h 10 false (.B (.K (.new 1) [] [.r 16,.r 17,.r 18,.r 19,.r 20]) [16,17,18,19,20] true .h [.r 6] []),.y (.K (.new 2) [] [.r 1,.r 2,.r 3,.op .b [.r 4],.r 9,.r 10,.B (.h 84 [.r 21]) [21] false .h [.r 8] [],.op .b [.r 7]])]
def vL:List IS:=[.h 1 false (.B (.u [.a 2 0 [.r 4],.a 2 1 [.r 4],.a 2 2 [.r 4],.a 2 3 [.r 4],.a 2 4 [.r 4]]) [4] false .h [.a 4 4 [.r 0]] []),.h 2 false (.B (.u [.a 3 0 [.r 5],.a 3 1 [.r 5],.a 3 2 [.r 5],.a 3 3 [.r 5],.a 3 4 [.r 5]]) [5] false .h [.a 4 5 [.r 0]] []),.h 3 false (.B (.h 85 [.r 6]) [6] false .h [.a 4 6 [.r 0]] []),.y (.l [.a 4 0 [.r 0],.a 4 1 [.r 0],.a 4 2 [.r 0],.op .b [.a 4 3 [.r 0]],.r 1,.r 2,.op .b [.a 4 7 [.r 0]],.r 3])]
def vP:List IS:=[.o (.h 33 [.r 0]) (.d (.j ⟨#[]⟩))]
def ui:List IS:=[.y (.q (.op .repr [.h 85 [.r 1]]) (.op .repr [.h 83 [.h 85 [.r 0],.r 2,.l []]]))]
def MC:List IS:=[.h 1 true (.h 54 [.r 0]),.n true [2,3] [(false,(.L (.at 1 none (.i 3)) (.i 1) (.k 55 [1] [.i 8]))),(true,(.l []))],.d (.o [.at 1 none (.i 3)]) [.set 1 none (.i 4) (.i 1),.h 3 true (.l [.k 73 [1] [.t yV,.i 2,.k 55 [1] [.i 11],.l []]]),.set 1 none (.i 4) (.i 0),.I 3 none (.k 73 [1] [.t x7,.i 1,.k 55 [1] [.i 11],.l []]),.set 1 none (.i 5) (.i 1)] [],.h 4 true (.k 73 [1] [.t x7,.i 4,.r 2,.r 3]),.h 5 false (.and [.o [.at 1 none (.i 3)],.q (.k 55 [1] [.i 3]) (.i 0)]),.d (.r 5) [.ex (.k 74 [1,4] [])] [],.h 6 false (.k 75 [1] []),.h 7 false (.h 83 [.r 4,.r 6,.l []]),.n true [8,9] [(false,(.h 84 [.r 4])),(false,(.h 84 [.r 7]))],.h 10 false (.h 86 [.r 8]),.d (.or [.I (.r 10) [.ne] [.h 86 [.r 9]],.and [.q (.r 10) (.d (.j ⟨#[]⟩)),.o [.r 5]]]) [.y (.d (.u false))] [],.h 11 false (.l [.t Dh,.t Dg,.t Dl,.t NA,.t Dk,.t Dj,.t Di,.t De]),.h 12 false (.p [.l [.x [.r 11,.r 2]],.B (.k 56 [1] [.r 11]) [13] false .range [.L (.at 1 none (.i 3)) (.i 0) (.k 55 [1] [.i 3])] []]),.d (.o [.h 87 [.h 53 [.r 8,.r 12],.h 53 [.r 9,.r 12],.r 6]]) [.y (.d (.u false))] [],.d (.and [.o [.at 1 none (.i 3)],.o [.h 87 [.h 51 [.r 8],.h 51 [.r 9],.r 6]]]) [.y (.d (.u false))] [],.y (.q (.op .repr [.l [.h 85 [.r 8],.h 85 [.r 9]]]) (.op .repr [.l [.r 4,.r 7]]))]
def Qv:List (List IS×Nat×List AV×Nat×Nat):=[
 (v8,6,[.s .r,.s .r,.s .r,.s (.m 0)],6,1),
 (lA,2,[],2,0),
 (rI,6,[],6,1),
 (oZ,2,[],2,0),
 (uk,9,[],9,1),
 (mh,5,[],5,0),
 (Ep,1,[],1,0),
 (Bd,1,[],1,0),
 (pS,1,[],1,0),
 (pU,1,[],1,0),
 (oS,1,[],1,0),
 (pT,1,[],1,0),
 (oU,1,[],1,0),
 (nt,1,[],1,0),
 (oO,1,[],1,0),
 (oW,1,[],1,0),
 (l_,1,[],1,0),
 (lz,1,[],1,0),
 (uj,1,[],2,0),
 (vY,1,[],1,0),
 (v5,1,[],1,0),
 (yx,2,[],2,0),
 (rG,3,[],3,0),
 (v7,1,[],2,0),
 (nA,3,[],3,1),
 (nE,3,[],3,1),
 (mf,4,[],5,1),
 (jI,3,[],8,1),
 (ji,3,[],3,1),
 (jj,3,[],6,1),
 (nz,2,[],7,1),
 (ix,1,[],5,1),
 (oY,1,[],4,1),
 (rH,2,[.n 0 []],5,0),
 (Eo,2,[],2,0),
 (Em,1,[],1,0),
 (vK,1,[],5,0),
 (yp,2,[],11,0),
 (oV,2,[],4,0),
 (vJ,1,[],4,0),
 (yn,1,[],6,0),
 (oP,1,[],3,0),
 (lZ,1,[],4,0),
 (l9,1,[],4,0),
 (vZ,2,[],2,0),
 (jh,1,[],9,0),
 (iW,1,[],7,0),
 (jg,1,[],4,0),
 (nu,1,[],4,0),
 (En,1,[],2,0),
 (oQ,1,[],5,0),
 (HW,1,[],3,0),
 (rC,1,[],3,0),
 (t_,2,[],5,0),
 (yw,1,[],4,0),
 (vM,2,[],4,1),
 (vQ,2,[],2,1),
 (ue,0,[],0,0),
 (vR,2,[],2,1),
 (rD,1,[],1,0),
 (vX,2,[.s .r],2,0),
 (ug,1,[],1,1),
 (vO,2,[],3,1),
 (yu,2,[],3,1),
 (ub,1,[],2,1),
 (rF,2,[],2,1),
 (yv,2,[],5,1),
 (ud,3,[],5,1),
 (rE,1,[],1,0),
 (vT,4,[],5,2),
 (vS,2,[],3,1),
 (vU,4,[],6,1),
 (pW,2,[],8,1),
 (uc,5,[],21,1),
 (vW,2,[],14,2),
 (yr,1,[],2,1),
 (Bf,2,[],2,0),
 (uf,2,[],5,0),
 (ua,2,[],4,0),
 (uh,2,[],2,0),
 (vN,2,[],3,0),
 (Be,2,[],6,0),
 (yt,4,[],9,0),
 (pV,3,[],25,0),
 (vV,1,[],22,0),
 (vL,1,[],7,0),
 (vP,1,[],1,0),
 (ui,3,[],3,0),
 (MC,1,[],14,0)]
noncomputable def FW:List Tx:=[⟨#[67,79,68,69,95,75,73,78,68,83]⟩,⟨#[67,65,84,67,72,95,83,79,82,84,83]⟩,⟨#[83,69,78,68,95,75,73,78,68,83]⟩,⟨#[79,85,84,95,83,79,82,84,83]⟩,⟨#[74,85,77,80,83]⟩,⟨#[69,78,68,83]⟩,⟨#[68,69,70,73,78,69,68,95,79,78,95,84,79,80]⟩,⟨#[68,69,70,73,78,69,68,95,83,79,82,84,83]⟩,⟨#[77,79,83,84,95,82,79,85,78,68,83]⟩,⟨#[80,76,65,73,78]⟩,⟨#[83,84,79,82,69,83]⟩,⟨#[66,82,65,78,67,72,69,83]⟩,⟨#[80,65,83,83,69,83]⟩]
def FC:List Tx:=[⟨#[99,111,118,101,114,115]⟩,m6,⟨#[110,101,101,100,95,99,97,116,99,104,101,115]⟩,⟨#[110,101,101,100,95,99,104,105,108,100]⟩,⟨#[110,101,101,100,95,102,111,114,109]⟩,⟨#[110,101,101,100,95,115,108,111,116,115]⟩,⟨#[114,101,97,99,104]⟩,⟨#[114,117,110]⟩,⟨#[115,116,101,112]⟩,⟨#[119,105,116,104,95,114,111,119,115]⟩,⟨#[119,105,116,104,95,116,97,114,103,101,116]⟩]
noncomputable def MB:List (List Tx):=[[⟨#[111,112]⟩,⟨#[97]⟩,⟨#[98]⟩,⟨#[99]⟩,⟨#[108,105,110,101]⟩],[⟨#[115,111,114,116]⟩,⟨#[102,105,114,115,116]⟩,⟨#[108,97,115,116]⟩,⟨#[116,97,114,103,101,116]⟩,⟨#[100,101,112,116,104]⟩],[⟨#[107,105,110,100]⟩,⟨#[110,97,109,101]⟩,⟨#[112,97,114,97,109,115]⟩,⟨#[115,108,111,116,115]⟩,⟨#[114,111,119,115]⟩,⟨#[99,97,116,99,104,101,115]⟩,⟨#[99,104,105,108,100,114,101,110]⟩,⟨#[115,116,97,114,116,115]⟩,⟨#[110,117,109,98,101,114]⟩],[⟨#[99,111,100,101]⟩,⟨#[115,101,101,110]⟩,⟨#[100,101,112,116,104,115]⟩,⟨#[119,97,105,116,105,110,103]⟩]]
def HN:List AV:=[.n 0 [.s (.j x7),.s (.j yV),.s (.j x5),.s (.j ⟨#[112,114,111,103,114,97,109]⟩)],.n 0 [.s (.j sY),.s (.j sZ)],.n 0 [.s (.j xZ),.s (.j n_),.s (.j xY)],.n 0 [.s (.j zJ),.s (.j zM)],.n 0 [.s (.j pH),.s (.j wV),.s (.j yW),.s (.j vm)],.n 0 [.s (.j pH),.s (.j zC),.s (.j qO),.s (.j Kp),.s (.j Kx),.s (.j m6)],.n 0 [.s (.j KN),.s (.j KC)],.n 0 [.s (.j ⟨#[105,118,97,114]⟩),.s (.j ⟨#[103,118,97,114]⟩),.s (.j ⟨#[99,111,110,115,116]⟩),.s (.j KC),.s (.j Df),.s (.j GZ),.s (.j x7),.s (.j KN)],.s (.m 24),.n 0 [.s (.j qV),.s (.j n_),.s (.j xX),.s (.j qU),.s (.j qT),.s (.j qN),.s (.j zN)],.n 0 [.s (.j wU),.s (.j qS),.s (.j qR),.s (.j pI)],.n 0 [.s (.j wV),.s (.j yW)],.n 1 [.n 0 [.s (.j Di),.s (.fn 39)],.n 0 [.s (.j Dl),.s (.fn 45)],.n 0 [.s (.j NA),.s (.fn 46)],.n 0 [.s (.j Dk),.s (.fn 47)],.n 0 [.s (.j Dj),.s (.fn 41)],.n 0 [.s (.j Dh),.s (.fn 42)],.n 0 [.s (.j Dg),.s (.fn 43)],.n 0 [.s (.j De),.s (.fn 48)]]]
def wd:List (Tx×AV):=[(qV,(.n 0 [.s (.m 0),.s (.m 1)])),(qQ,(.n 0 [.s (.m 0),.s (.m 1)])),(n9,(.n 0 [.s (.m 1),.s (.m 0)])),(qN,(.n 0 [.s (.m 1),.s (.m 2)])),(⟨#[100,117,112,50]⟩,(.n 0 [.s (.m 2),.s (.m 4)])),(qP,(.n 0 [.s (.m 2),.s (.m 2)])),(Kk,(.s (.fn 8))),(n_,(.n 0 [.s (.m 0),.s (.m 1)])),(xX,(.n 0 [.s (.m 0),.s (.m 1)])),(wU,(.n 0 [.s (.m 1),.s (.m 0)])),(qU,(.n 0 [.s (.m 0),.s (.m 1)])),(qS,(.n 0 [.s (.m 1),.s (.m 0)])),(qT,(.n 0 [.s (.m 0),.s (.m 1)])),(qR,(.n 0 [.s (.m 1),.s (.m 0)])),(Kj,(.n 0 [.s (.m 0),.s (.m 1)])),(Kv,(.n 0 [.s (.m 1),.s (.m 1)])),(pI,(.n 0 [.s (.m 1),.s (.m 0)])),(Km,(.s (.fn 9))),(⟨#[97,112,112,101,110,100]⟩,(.n 0 [.s (.m 2),.s (.m 1)])),(⟨#[106,111,105,110,108,105,115,116,115]⟩,(.n 0 [.s (.m 2),.s (.m 1)])),(⟨#[115,112,114,101,97,100]⟩,(.n 0 [.s (.m 1),.s (.m 1)])),(Ko,(.s (.fn 10))),(Kr,(.n 0 [.s (.m 2),.s (.m 1)])),(⟨#[116,111,116,101,120,116]⟩,(.n 0 [.s (.m 1),.s (.m 1)])),(Ks,(.s (.fn 9))),(sW,(.s (.fn 11))),(Df,(.s (.fn 12))),(G1,(.s (.fn 13))),(GZ,(.s (.fn 14))),(pH,(.n 0 [.s (.m 0),.s (.m 0)])),(wV,(.n 0 [.s (.m 1),.s (.m 0)])),(yW,(.n 0 [.s (.m 1),.s (.m 0)])),(vm,(.n 0 [.s (.m 1),.s (.m 1)])),(zI,(.n 0 [.s (.m 0),.s (.m 1)])),(sV,(.n 0 [.s (.m 0),.s (.m 1)])),(GY,(.n 0 [.s (.m 1),.s (.m 1)])),(x5,(.s (.fn 15))),(G2,(.n 0 [.s (.m 0),.s (.m 1)])),(G0,(.n 0 [.s (.m 1),.s (.m 1)])),(Kn,(.n 0 [.s (.m 0),.s (.m 1)])),(sX,(.n 0 [.s (.m 0),.s (.m 1)])),(zC,(.n 0 [.s (.m 1),.s (.m 0)])),(qO,(.n 0 [.s (.m 1),.s (.m 0)])),(Kp,(.n 0 [.s (.m 1),.s (.m 0)])),(⟨#[99,97,117,103,104,116]⟩,(.n 0 [.s (.m 1),.s (.m 1)])),(⟨#[115,101,116,99,97,117,103,104,116]⟩,(.n 0 [.s (.m 1),.s (.m 0)])),(G3,(.s (.fn 16))),(KH,(.s (.fn 17))),(Kz,(.n 0 [.s (.m 1),.s (.m 1)])),(⟨#[105,115,108,105,115,116]⟩,(.n 0 [.s (.m 1),.s (.m 1)])),(⟨#[105,115,116,97,98,108,101]⟩,(.n 0 [.s (.m 1),.s (.m 1)])),(KI,(.n 0 [.s (.m 1),.s (.m 1)])),(Ku,(.n 0 [.s (.m 1),.s (.m 1)])),(KG,(.n 0 [.s (.m 1),.s (.m 1)])),(KA,(.n 0 [.s (.m 1),.s (.m 1)])),(Kw,(.n 0 [.s (.m 1),.s (.m 1)])),(KL,(.n 0 [.s (.m 1),.s (.m 1)])),(KJ,(.n 0 [.s (.m 1),.s (.m 1)])),(Kx,(.n 0 [.s (.m 1),.s (.m 0)])),(zN,(.n 0 [.s (.m 0),.s (.m 1)])),(m6,(.n 0 [.s (.m 0),.s (.m 0)])),(Ky,(.n 0 [.s (.m 0),.s (.m 1)])),(⟨#[110,101,101,100,99,108,97,115,115]⟩,(.n 0 [.s (.m 1),.s (.m 1)])),(⟨#[116,111,98,108,111,99,107]⟩,(.n 0 [.s (.m 1),.s (.m 1)])),(⟨#[112,97,115,115,105,110,103]⟩,(.n 0 [.s (.m 1),.s (.m 0)]))]
def vu:List (Tx×Tx):=[(qV,⟨#[118]⟩),(qQ,⟨#[116]⟩),(Kk,⟨#[99]⟩),(xX,GU),(wU,GU),(qU,⟨#[110]⟩),(qS,⟨#[110]⟩),(qT,⟨#[110]⟩),(qR,⟨#[110]⟩),(Kj,⟨#[110]⟩),(Kv,⟨#[110]⟩),(pI,⟨#[110]⟩),(Km,⟨#[99]⟩),(Ko,⟨#[99]⟩),(Kr,⟨#[102]⟩),(Ks,⟨#[99]⟩),(sW,⟨#[110,97,115]⟩),(Df,⟨#[97,98]⟩),(G1,⟨#[98]⟩),(GZ,⟨#[97]⟩),(pH,⟨#[112]⟩),(wV,⟨#[112]⟩),(yW,⟨#[112]⟩),(vm,⟨#[112]⟩),(zI,⟨#[99]⟩),(sV,GW),(GY,GW),(x5,⟨#[110,99,102]⟩),(G2,GW),(G0,⟨#[99]⟩),(Kn,⟨#[110,110]⟩),(sX,⟨#[110]⟩),(qO,⟨#[115]⟩),(G3,⟨#[115,118]⟩),(KH,⟨#[99,114,99]⟩),(Kz,⟨#[110]⟩),(KI,⟨#[99,102]⟩),(Ku,⟨#[105]⟩),(KG,GU),(KA,⟨#[118]⟩),(Kw,⟨#[118]⟩),(KL,⟨#[107]⟩),(KJ,⟨#[107]⟩),(m6,⟨#[110,116]⟩),(Ky,⟨#[110]⟩)]
noncomputable def DP(m k:Nat):Option Nat:=[((0,3),3),((1,5),25),((2,5),31),((3,5),29),((4,5),27),((5,5),28),((6,5),26),((7,5),32),((8,5),30),((9,4),5),((10,2),1)].lookup (m,k)
def GP:jn:=⟨HN,λi=>Qv[i]?,wd,vu,DP,λc=>[0,2,4,24].getD c 0,1000⟩
end Mine
namespace Mine
open PySem PySem.W PyProof.Rows PySem.Calls
inductive aT{α β:Type}(R:α->β->Prop):List α->List β->Prop
 |j:aT R [] []
 |u {a b l r} (h:R a b) (t:aT R l r):aT R (a::l) (b::r)
section
variable {α β:Type}{R S:α->β->Prop}
def aT.E(h:aT R l r):l.length=r.length:=by
 induction h with
 |j=>rfl
 |u _ _ A=>exact congrArg Nat.succ A
def aT.get(h:aT R l r):∀{i:Nat} {b:β},r[i]? =some b->∃a,l[i]? =some a/\R a b:=by
 induction h with
 |j=>exact λe=>nomatch e
 |u h _ A=>exact λ{i}=>match i with
  |0=>λe=>⟨_,rfl,dG e▸h⟩
  |_+1=>λe=>A e
def aT.imp(h:aT R l r)(k:∀a b,R a b->S a b):aT S l r:=by
 induction h with
 |j=>exact .j
 |u h _ A=>exact .u (k _ _ h) A
def aT.I(h:aT R l r)(h':aT R A r'):aT R (l++A) (r++r'):=by
 induction h with
 |j=>exact h'
 |u h _ B=>exact .u h B
def aT.drop(h:aT R l r):∀n,aT R (l.drop n) (r.drop n):=by
 induction h with
 |j=>exact λn=>by rw[List.drop_nil,List.drop_nil];exact .j
 |u h t A=>exact λn=>match n with
  |0=>.u h t
  |n+1=>A n
def aT.take(h:aT R l r):∀n,aT R (l.take n) (r.take n):=by
 induction h with
 |j=>exact λn=>by rw[List.take_nil,List.take_nil];exact .j
 |u h t A=>exact λn=>match n with
  |0=>.j
  |n+1=>.u h (A n)
def aT.set(h:aT R l r)(x:R a b):∀n,aT R (l.set n a) (r.set n b):=by
 induction h with
 |j=>exact λz=>.j
 |u h t A=>exact λn=>match n with
  |0=>.u x t
  |n+1=>.u h (A n)
def aT.mem(h:aT R l r)(m:a∈l):∃b∈r,R a b:=by
 induction h with
 |j=>cases m
 |u h _ A=>cases m with
  |head=>exact⟨_,.head _,h⟩
  |tail _ m=>exact eK (A m) λb B=>aK B λq r=>⟨b,.tail _ q,r⟩
end
def c8{h:Heap}(x:∀o,h.get? a≠some o):h.get? a=none:=by
 induction e:h.get? a using aF with
 |none=>rfl
 |some o=>exact absurd e (x o)
def bw(h:o=none):o≠some a:=λe=>by rw[h]at e;cases e
def bJ{h:Heap}:h.get? h.objs.size=none:=c8 λz e=>absurd (Heap.lt_size e) (Nat.lt_irrefl _)
def aI{h:Heap}:h.StaysIn (h.push x):=λz z e=>Heap.get?_push_of_some _ e
noncomputable abbrev de(A:Array Value)(n:Nat):Obj:={cls:=.type "tuple",data:=.seq A n}
noncomputable abbrev dF:Nat:=16777216
structure Gd where
 prog:Program
 w:World
 base:Heap
 K:Frag
 cls:Nat->Addr
 fld:Nat->List Str
 iH:Nat->Addr
 fH:K.In base
 mg:∃mg,base.Ns mainGlobals mg
 mb:∃mb,base.Ns builtinsNs mb/\∀x:Str,x≠"__name__"->mb x=bootBuiltins x
 d7:base.NoLimit
 eP:∃mc,base.Ns cStatics mc/\mc "sys.int_max_str_digits" =none
 A:∀c nm,nm∈fld c->plainGet K (cls c) nm=true/\hasDictIn K (cls c)=true/\findIn K (.ref (cls c)) nm=some none
 g:∀c,(fld c).Nodup
 T_:∀f,∃o fd,base.get? (iH f)=some o/\o.cls= .type "function"/\o.data= .func fd
abbrev cR:=Addr->Obj->Prop
abbrev cR.le(V V':cR):Prop:=∀a o,V a o->V' a o
abbrev gJ(h:Heap):cR:=λa o=>h.get? a=some o
structure qF(g:Gd)(e:DictEntry)(n:Str):Prop where
 k:∃t,e.key= .str n t
 h:e.hash=PyData.keyHash g.w.params n
inductive dz(g:Gd)(V:cR):Nat->Value->List Value->List Addr->Prop
 |tup {a vs n} (e:V a (de vs n)):dz g V 0 (.ref a) vs.toList [a]
 |aj {a vs n} (e:V a (listOf vs n)):dz g V 1 (.ref a) vs.toList [a]
 |obj {c a d es n} (e:V a (instObj (g.cls c) d)) (e':V d (dictOf es n)) (hk:aT (qF g) es ((g.fld c).take es.length)):dz g V (c+2) (.ref a) (es.map (·.val)) [a,d]
inductive aZ(g:Gd):Value->Sc->Prop
 |r:aZ g .none .r
 |u (b:Bool):aZ g (.bool b) (.u b)
 |m (i:Int) (t:Tok):aZ g (.int i t) (.m i)
 |j (x:Str) (t:Tok):aZ g (.str x t) (.j x)
 |fn (f:Nat):aZ g (.ref (g.iH f)) (.fn f)
mutual
def cf(g:Gd)(V:cR):Value->AV->Prop
 |v,.s c=>aZ g v c
 |v,.n k l=> ∃A B,dz g V k v A B/\kN g V A l/\l.length<=dF
def kN(g:Gd)(V:cR):List Value->List AV->Prop
 |vs,[]=>vs=[]
 |vs,a::l=> ∃v r,vs=v::r/\cf g V v a/\kN g V r l
end
section
variable {g:Gd}{V V':cR}
def dz.mono(x:dz g V k v vs as)(m:∀a o,a∈as->V a o->V' a o):dz g V' k v vs as:=by
 cases x with
 |tup e=>exact .tup (m _ _ (.head _) e)
 |aj e=>exact .aj (m _ _ (.head _) e)
 |obj e B A=>exact .obj (m _ _ (.head _) e) (m _ _ (.tail _ (.head _)) B) A
def kN.iff:∀{l:List AV} {vs:List Value},kN g V vs l↔aT (cf g V) vs l:=by
 intro l
 induction l with
 |nil=>exact λ{vs}=>⟨λh=>by cases(show vs=[]from h);exact .j,λh=>by cases h;exact rfl⟩
 |cons a l A=>exact λ{vs}=>⟨λh=>by obtain⟨v,r,rfl,h,t⟩:=(show ∃v r,vs=v::r/\cf g V v a/\kN g V r l from h);exact .u h (A.mp t),λh=>by cases h with |u h t=>exact⟨_,_,rfl,h,A.mpr t⟩⟩
abbrev cm(g:Gd)(V:cR)(vs:List Value)(l:List AV):Prop:=aT (cf g V) vs l
mutual
theorem cf.mono(m:V.le V'):∀(x:AV) {v:Value},cf g V v x->cf g V' v x
 |.s _,_ =>id
 |.n _ l,_ =>λh=>by obtain⟨A,B,s,r,b⟩:=(show ∃A B,_ from h);exact⟨A,B,s.mono λa o z=>m a o,kN.mono m l r,b⟩
theorem kN.mono(m:V.le V'):∀(l:List AV) {vs:List Value},kN g V vs l->kN g V' vs l
 |[],_ =>id
 |x::l,_ =>λh=>by obtain⟨v,r,e,h,t⟩:=(show ∃v r,_ from h);exact⟨v,r,e,cf.mono m x h,kN.mono m l t⟩
end
def cm.mono(m:V.le V')(h:cm g V vs l):cm g V' vs l:=h.imp λz a=>cf.mono m a
def cf.node(h:cf g V v (.n k l)):kO (λvs as=>dz g V k v vs as) (λvs as=>cm g V vs l) (λvs as=>l.length<=dF):=by
 obtain⟨vs,as,s,r,b⟩:=(show ∃vs as,_ from h);exact⟨vs,as,s,kN.iff.mp r,b⟩
def cf.mk{k:Nat}{v:Value}{l:List AV}{vs:List Value}{as:List Addr}(s:dz g V k v vs as)(r:cm g V vs l)(b:l.length<=dF):cf g V v (.n k l):=⟨vs,as,s,kN.iff.mpr r,b⟩
end
inductive iG(g:Gd)(V:cR)(h:Heap):Value->SF->List Addr->Prop
 |v {v a} (r:cf g V v a):iG g V h v (.v a) []
 |o {v vs as l} (s:dz g (gJ h) 1 v vs as) (r:cm g V vs l) (b:l.length<=dF):iG g V h v (.o l) as
inductive dk(g:Gd)(V:cR)(h:Heap):List Value->List SF->List Addr->Prop
 |j:dk g V h [] [] []
 |u {v vs s l o1 o2} (x:iG g V h v s o1) (t:dk g V h vs l o2):dk g V h (v::vs) (s::l) (o1++o2)
inductive ki(g:Gd)(V:cR)(h:Heap):Value->SV->List Addr->Prop
 |f {v s o} (x:iG g V h v s o):ki g V h v (.f s) o
 |e {k v vs as l o} (hk:k≠0) (s:dz g (gJ h) k v vs as) (x:dk g V h vs l o) (b:l.length<=dF):ki g V h v (.e k l) (as++o)
def gN(os:List Addr)(h h':Heap):Prop:=∀a∈os,∀o,h.get? a=some o->h'.get? a=some o
section
variable {g:Gd}{V V':cR}{h h':Heap}
def gN.left(e:gN (o1++o2) h h'):gN o1 h h':=λa A=>e a (pq _ A)
def gN.right(e:gN (o1++o2) h h'):gN o2 h h':=λa A=>e a (iI _ A)
def iG.mono{v:Value}{os:List Addr}(m:V.le V')(e:gN os h h')(x:iG g V h v s os):iG g V' h' v s os:=by
 cases x with
 |v r=>exact .v (r.mono m)
 |o s r b=>exact .o (s.mono λa o A=>e a A o) (r.mono m) b
def dk.mono{os:List Addr}(m:V.le V')(x:dk g V h vs l os):gN os h h'->dk g V' h' vs l os:=by
 induction x with
 |j=>exact λz=>.j
 |u x _ A=>exact λe=>.u (x.mono m e.left) (A e.right)
def ki.mono{os:List Addr}(m:V.le V')(e:gN os h h')(x:ki g V h v s os):ki g V' h' v s os:=by
 cases x with
 |f x=>exact .f (x.mono m e)
 |e A s x b=>exact .e A (s.mono λa o B=>e.left a B o) (x.mono m e.right) b
def dz.live(x:dz g (gJ h) k v vs as):∀a∈as,∃o,h.get? a=some o:=by
 cases x with
 |tup e=>exact iE.mpr ⟨_,e⟩
 |aj e=>exact iE.mpr ⟨_,e⟩
 |obj e A _ =>exact cu.mpr ⟨⟨_,e⟩,iE.mpr ⟨_,A⟩⟩
def iG.live{v:Value}{os:List Addr}(x:iG g V h v s os):∀a∈os,∃o,h.get? a=some o:=by
 cases x with
 |v _ =>exact gy _
 |o s _ _ =>exact s.live
def dk.live{os:List Addr}(x:dk g V h vs l os):∀a∈os,∃o,h.get? a=some o:=by
 induction x with
 |j=>exact gy _
 |u x _ A=>exact λa m=>(gM.mp m).elim (x.live a) (A a)
def ki.live{os:List Addr}(x:ki g V h v s os):∀a∈os,∃o,h.get? a=some o:=by
 cases x with
 |f x=>exact x.live
 |e _ s x _ =>exact λa m=>(gM.mp m).elim (s.live a) (x.live a)
def iG.q{v:Value}{os:List Addr}(x:iG g V h v s os)(m:V.le V')(f:∀a o,a∈os->h.get? a=some o->V' a o):cf g V' v s.q:=by
 cases x with
 |v r=>exact r.mono m
 |o s r b=>exact .mk (s.mono f) (r.mono m) b
def dk.q{os:List Addr}(x:dk g V h vs l os)(m:V.le V'):(∀a o,a∈os->h.get? a=some o->V' a o)->cm g V' vs (l.map SF.q):=by
 induction x with
 |j=>exact λz=>.j
 |u x _ B=>exact λf=>.u (x.q m λa o A=>f a o (pq _ A)) (B λa o A=>f a o (iI _ A))
def ki.q{os:List Addr}(x:ki g V h v s os)(m:V.le V')(f:∀a o,a∈os->h.get? a=some o->V' a o)(e:s.q=some w):cf g V' v w:=by
 cases x with
 |f x=>cases e;exact x.q m f
 |e _ s x b=>cases e;exact .mk (s.mono λa o A=>f a o (pq _ A)) (x.q m λa o A=>f a o (iI _ A)) (by rwa[cz])
def dk.E{os:List Addr}(x:dk g V h vs l os):vs.length=l.length:=by
 induction x with
 |j=>rfl
 |u _ _ A=>exact congrArg Nat.succ A
def dk.split{os:List Addr}(x:dk g V h vs l os):∀{i:Nat} {s:SF},l[i]? =some s->
 ∃v o1 B o2,vs[i]? =some v/\iG g V h v s B/\os=o1++(B++o2)/\∀{V' h' v' s' A},V.le V'->gN (o1++o2) h h'->iG g V' h' v' s' A->dk g V' h' (vs.set i v') (l.set i s') (o1++(A++o2)):=by
 induction x with
 |j=>intro i s e;cases e
 |u x t E=>
  intro i s e
  induction i using dU with
  |zero=>cases e;exact⟨_,[],_,_,rfl,x,rfl,λ{V' h' v' s' A} m e y=>show dk g V' h' _ _ (A++_)from .u y (t.mono m e)⟩
  |succ i=>
   refine bB λH C=>?_;obtain⟨w,o1,B,o2,D,F,G,k⟩:=E e;refine C ?_
   exact⟨w,_ ++o1,B,o2,D,F,by rw[G,iC],λm e y=>by
    rw[iC]at e|-
    exact .u (x.mono m e.left) (k m e.right y)⟩
end
set_option genCtorIdx false in
inductive Loc |l(d:Addr)(x:Str)|c(a:Addr)
noncomputable def Loc.ctorIdx(x:Loc):Nat:=x.casesOn (λz z=>0) λz=>1
noncomputable def Loc.b:Loc->Addr |.l d _ =>d |.c a=>a
def Loc.okIn(h:Heap):Loc->Prop
 |.l d _ => ∃m,h.Ns d m
 |.c a=> ∃v,h.IsCell a v
def Loc.holds(h:Heap)(v:Value):Loc->Prop
 |.l d x=> ∃m,h.Ns d m/\m x=some v
 |.c a=>h.IsCell a (some v)
def Ns.at{h h':Heap}(x:h.Ns d m)(k:∀o,h.get? d=some o->h'.get? d=some o):h'.Ns d m:=by obtain⟨o,A,ep,e,r⟩:=x;exact⟨o,A,ep,k o e,r⟩
section
variable {h h':Heap}{l:Loc}{v v':Value}
def Loc.okIn.at(k:∀o,h.get? l.b=some o->h'.get? l.b=some o)(x:l.okIn h):l.okIn h':=by
 induction l using Mine.Loc.casesOn with
 |l _ _ =>obtain⟨m,A⟩:=x;exact⟨m,Ns.at A k⟩
 |c _ =>obtain⟨v,o,e,q⟩:=x;exact⟨v,o,k o e,q⟩
def Loc.holds.at(k:∀o,h.get? l.b=some o->h'.get? l.b=some o)(x:l.holds h v):l.holds h' v:=by
 induction l using Mine.Loc.casesOn with
 |l _ _ =>obtain⟨m,A,e⟩:=x;exact⟨m,Ns.at A k,e⟩
 |c _ =>obtain⟨o,e,q⟩:=x;exact⟨o,k o e,q⟩
def Loc.okIn.live(x:l.okIn h):∃o,h.get? l.b=some o:=by
 induction l using Mine.Loc.casesOn with
 |l _ _ =>obtain⟨_,o,_,_,e,_⟩:=x;exact⟨o,e⟩
 |c _ =>obtain⟨_,o,e,_⟩:=x;exact⟨o,e⟩
def Loc.holds.oK(x:l.holds h v):l.okIn h:=by
 induction l using Mine.Loc.casesOn with
 |l _ _ =>exact x.imp λz=>And.left
 |c _ =>exact⟨_,x⟩
def Ns.inj(x:h.Ns d m)(y:h.Ns d B):m=B:=by
 obtain⟨o,G,ep,e,A,_,D⟩:=x;obtain⟨H,L,I,F,C,_,E⟩:=y;rw[dG (e.symm.trans F),C]at A
 injection A with q1 _
 exact funext λy=>(D y).symm.trans (q1▸E y)
def Loc.holds.inj(x:l.holds h v)(y:l.holds h v'):v=v':=by
 induction l using Mine.Loc.casesOn with
 |l _ _ =>
  obtain⟨m,a,e⟩:=x;obtain⟨E,b,A⟩:=y;rw[Ns.inj a b]at e;exact dG (e.symm.trans A)
 |c _ =>
  obtain⟨o,e,B⟩:=x;obtain⟨D,A,C⟩:=y;rw[dG (e.symm.trans A),C]at B
  injection B with q
  exact(dG q).symm
end
abbrev ie:=List (Addr×(Str->Option Value))
abbrev dJ:=Addr->Prop
abbrev aJ:=Nat->List Addr
def Wr(O:ie)(A:dJ)(os:aJ):dJ:=λa=>(∃p∈O,p.1=a)\/A a\/∃j,a∈os j
def Vw(X W:dJ)(h:Heap):cR:=λa o=> ¬X a/\¬W a/\h.get? a=some o
def dE(W:dJ)(h:Heap)(W':dJ)(h':Heap):Prop:=∀a o,¬W a->h.get? a=some o->h'.get? a=some o/\¬W' a
def dE.d(W)(h):dE W h W h:=λz z n e=>⟨e,n⟩
def dE.trans(x:dE W h W' h')(y:dE W' h' A B):dE W h A B:=λa o n e=>by obtain⟨D,C⟩:=x a o n e;exact y a o C D
def dE.c9(x:dE W h W' h'):(Vw X W h).le (Vw X W' h'):=λa o C=>by obtain⟨q,n,e⟩:=C;exact by obtain⟨A,B⟩:=x a o n e;exact⟨q,B,A⟩
def dE.b(k:h.StaysIn h'):dE W h W h':=λa o n e=>⟨k a o e,n⟩
noncomputable def tI:Nat:=1000000
structure cU(g:Gd)(O:ie)(X pl:dJ)(hold:Nat->Value->Prop)(os:aJ)(en:List SV)(h:Heap):Prop where
 base:(gJ g.base).le (Vw X (Wr O pl os) h)
 b:∀a,X a->(∃o,h.get? a=some o)/\¬Wr O pl os a
 n:∀p∈O,h.Ns p.1 p.2
 l:∀a,pl a->(∃o,h.get? a=some o)/\∀p∈O,p.1≠a
 e:∀i,∀a∈os i,(∀p∈O,p.1≠a)/\¬pl a
 nd:∀i,(os i).Nodup
 k:∀i j a,i≠j->a∈os i->a∉os j
 emp:∀i,i≠tI->en[i]? =none\/en[i]? =some .a->os i=[]
 q:∀a∈os tI,∃o,h.get? a=some o
 slot:∀i sv,en[i]? =some sv->sv≠.a->∃v,hold i v/\ki g (Vw X (Wr O pl os) h) h v sv (os i)
noncomputable def aJ.f(os:aJ)(i:Nat)(o:List Addr):aJ:=λj=>if j=i then o else os j
def aJ.d{os:aJ}:os.f i o i=o:=if_pos rfl
def aJ.b{os:aJ}(h:j≠i):os.f i o j=os j:=if_neg h
def aJ.c{os:aJ}(h:a∈os.f i o j):(j=i/\a∈o)\/(j≠i/\a∈os j):=by
 unfold aJ.f at h
 split at h
 ·exact .inl ⟨‹_›,h⟩
 ·exact .inr ⟨‹_›,h⟩
def iL{A:Type}{l:List A}{a b:A}(h:(l.set i a)[j]? =some b):(j=i/\b=a)\/(j≠i/\l[j]? =some b):=by
 by_cases q:j=i
 ·subst q;rw[List.getElem?_set_self (by have:=aS h;rwa[eI]at this)]at h;exact .inl ⟨rfl,(dG h).symm⟩
 ·rw[List.getElem?_set_ne (Ne.symm q)]at h;exact .inr ⟨q,h⟩
section
variable {g:Gd}{O:ie}{X pl:dJ}{hold hold':Nat->Value->Prop}{os:aJ}{en:List SV}{h h':Heap}
def cU.live(I:cU g O X pl hold os en h)(m:a∈os i):∃o,h.get? a=some o:=by
 by_cases A:i=tI
 ·exact I.q a (A▸m)
 ·induction e:en[i]? using aF with
  |none=>rw[I.emp i A (.inl e)]at m;cases m
  |some B=>
   by_cases q:B= .a
   ·rw[I.emp i A (.inr (q▸e))]at m;cases m
   ·obtain⟨v,_,x⟩:=I.slot i B e q;exact x.live a m
def Ns.live(x:h.Ns d m):∃o,h.get? d=some o:=by obtain⟨o,_,_,e,_⟩:=x;exact⟨o,e⟩
def cU.fresh(I:cU g O X pl hold os en h)(n:h.get? a=none):¬X a/\¬Wr O pl os a:=by
 have A:¬ ∃o,h.get? a=some o:=kE λo e=>bw n e;refine⟨λx=>A (I.b a x).1,λx=>A ?_⟩;rcases x with⟨p,B,rfl⟩|x |⟨j,x⟩
 ·exact Ns.live (I.n p B)
 ·exact(I.l a x).1
 ·exact I.live x
def cU.new(I:cU g O X pl hold os en h)(n:h.get? a=none)(e:h'.get? a=some o):Vw X (Wr O pl os) h' a o:=⟨(I.fresh n).1,(I.fresh n).2,e⟩
def cU.moved(I:cU g O X pl hold os en h){Z:dJ}(B:∀a,Z a->X a)(k:∀a o,¬Z a->h.get? a=some o->h'.get? a=some o)(L:∀a,Z a->∃o,h'.get? a=some o)(F:∀i v,hold i v->hold' i v):cU g O X pl hold' os en h':=by
 have A:∀a o,Wr O pl os a->h.get? a=some o->h'.get? a=some o:=λa o w=>k a o λz=>(I.b a (B a z)).2 w;have C:(Vw X (Wr O pl os) h).le (Vw X (Wr O pl os) h'):=λa o=>And.elim λx=>And.elim λy e=>⟨x,y,k a o (λz=>x (B a z)) e⟩;have H:∀a,¬Z a->(∃o,h.get? a=some o)->∃o,h'.get? a=some o:=λa z E=>eK E λo e=>⟨o,k a o z e⟩;refine⟨λa o e=>C a o (I.base a o e),λa x=>⟨?_,(I.b a x).2⟩,λp D=>Ns.at (I.n p D) λo=>A _ o (.inl ⟨p,D,rfl⟩),λa x=>⟨let⟨o,e⟩:=(I.l a x).1;⟨o,A a o (.inr (.inl x)) e⟩,(I.l a x).2⟩,I.e,I.nd,I.k,I.emp,λa m=>let⟨o,e⟩:=I.q a m;⟨o,A a o (.inr (.inr ⟨_,m⟩)) e⟩,λi G e q=>?_⟩
 ·by_cases z:Z a
  ·exact L a z
  ·exact H a z (I.b a x).1
 ·obtain⟨v,x,y⟩:=I.slot i G e q;exact⟨v,F i v x,y.mono C λa m o=>A a o (.inr (.inr ⟨i,m⟩))⟩
def cU.f(I:cU g O X pl hold os en h){X':dJ}{i:Nat}{o':List Addr}(u:i<en.length)(N:i≠tI)(C:∀a,X' a->X a/\a∉o')
 (fr:dE (λa=>Wr O pl os a\/(X a/\¬X' a)) h (Wr O pl (os.f i o')) h') (R:∀a,X' a->∃o,h'.get? a=some o) (out:∀p∈O,h'.Ns p.1 p.2) (cW:∀a,pl a->∃o,h'.get? a=some o)
 (own:∀a∈o',(∀p∈O,p.1≠a)/\¬pl a) (Q:o'.Nodup) (M:∀j a,j≠i->a∈o'->a∉os j) (G:∀j a o,j≠i->a∈os j->h.get? a=some o->h'.get? a=some o)
 (S:∀j w,j≠i->hold j w->hold' j w) (W:hold' i v) (H:sv= .a/\o'=[]\/sv≠.a/\∀V',(Vw X (Wr O pl os) h).le V'->(∀a o,a∈os i->a∉o'->h'.get? a=some o->V' a o)->ki g V' h' v sv o'):cU g O X' pl hold' (os.f i o') (en.set i sv) h':=by
 have D:(Vw X (Wr O pl os) h).le (Vw X' (Wr O pl (os.f i o')) h'):=λa o=>And.elim λx=>And.elim λy e=>by
  obtain⟨E,n⟩:=fr a o (λq=>q.elim y λq=>x q.1) e;exact⟨λq=>x (C a q).1,n,E⟩
 refine⟨λa o e=>D a o (I.base a o e),λa x=>⟨R a x,λw=>?_⟩,out,λa x=>⟨cW a x,(I.l a x).2⟩,λj a m=>?_,λj=>?_,λj k a L m A=>?_,λj V e=>?_,λa m=>?_,λj s e q=>?_⟩
 ·obtain⟨c,F⟩:=I.b a (C a x).1;rcases w with w |w |⟨j,w⟩
  ·exact F (.inl w)
  ·exact F (.inr (.inl w))
  ·rcases aJ.c w with⟨_,w⟩|⟨_,w⟩
   ·exact(C a x).2 w
   ·exact F (.inr (.inr ⟨j,w⟩))
 ·rcases aJ.c m with⟨_,m⟩|⟨_,m⟩
  ·exact own a m
  ·exact I.e j a m
 ·by_cases q:j=i
  ·rw[q,aJ.d];exact Q
  ·rw[aJ.b q];exact I.nd j
 ·rcases aJ.c m with⟨q,m⟩|⟨q,m⟩<;>rcases aJ.c A with⟨B,A⟩|⟨B,A⟩
  ·exact L (q.trans B.symm)
  ·exact M k a B m A
  ·exact M j a q A m
  ·exact I.k j k a L m A
 ·by_cases q:j=i
  ·refine bB λl P=>?_;subst q;rw[List.getElem?_set_self u]at e;refine P ?_;rw[aJ.d];exact e.elim nofun λe=>H.elim And.right λn=>absurd (dG e) n.1
  ·rw[List.getElem?_set_ne (Ne.symm q)]at e;rw[aJ.b q];exact I.emp j V e
 ·rw[aJ.b (Ne.symm N)]at m;obtain⟨o,e⟩:=I.q a m;exact⟨o,G tI a o (Ne.symm N) m e⟩
 ·rcases iL e with⟨rfl,rfl⟩|⟨B,e⟩
  ·rw[aJ.d];refine⟨v,W,H.elim (λn=>absurd n.1 q) λn=>n.2 _ D λa o m A E=>?_⟩;refine⟨λx=>(λx=>(I.b a x).2 (.inr (.inr ⟨j,m⟩)):¬X a) (C a x).1,λw=>?_,E⟩;obtain⟨U,Z⟩:=I.e j a m;rcases w with⟨p,Y,w⟩|w |⟨k,w⟩
   ·exact U p Y w
   ·exact Z w
   ·rcases aJ.c w with⟨_,w⟩|⟨z,w⟩
    ·exact A w
    ·exact I.k k j a z w m
  ·obtain⟨w,x,y⟩:=I.slot j s e q;rw[aJ.b B];exact⟨w,S j w B x,y.mono D λa m o=>G j a o B m⟩
def cU.r(I:cU g O X pl hold os en h){o':List Addr}(F:en.length<=tI)(k:h.StaysIn h')(R:∀j w,hold j w->hold' j w)(S:∀a∈o',∃o,h'.get? a=some o)(H:∀a∈o',a∈os tI\/h.get? a=none)(Q:o'.Nodup):cU g O X pl hold' (os.f tI o') en h':=by
 have M:∀a,Wr O pl (os.f tI o') a->(∃o,h.get? a=some o)->Wr O pl os a:=λa w U=>eK U λo e=>by
  rcases w with w |w |⟨j,w⟩
  ·exact .inl w
  ·exact .inr (.inl w)
  ·rcases aJ.c w with⟨_,w⟩|⟨_,w⟩
   ·exact .inr (.inr ⟨_,(H a w).resolve_right (bw · e)⟩)
   ·exact .inr (.inr ⟨j,w⟩)
 have G:(Vw X (Wr O pl os) h).le (Vw X (Wr O pl (os.f tI o')) h'):=λa o=>And.elim λx=>And.elim λy e=>⟨x,λw=>y (M a w ⟨o,e⟩),k a o e⟩;have P:∀{a},(∃o,h.get? a=some o)->∃o,h'.get? a=some o:=kE λo e=>⟨o,k _ o e⟩;have D:∀{a},a∈o'->a∉os tI->¬Wr O pl os a:=λm n w=>(I.fresh ((H _ m).resolve_left n)).2 w;refine⟨λa o e=>G a o (I.base a o e),λa x=>⟨P (I.b a x).1,λw=>(I.b a x).2 (M a w (I.b a x).1)⟩,λp E=>Ns.at (I.n p E) λo=>k _ o,λa x=>⟨P (I.l a x).1,(I.l a x).2⟩,λj a m=>?_,λj=>?_,λi j a N m A=>?_,λj L e=>?_,λa m=>?_,λj s e q=>?_⟩
 ·rcases aJ.c m with⟨_,m⟩|⟨_,m⟩
  ·by_cases q:a∈os tI
   ·exact I.e _ a q
   ·exact⟨λp E e=>D m q (.inl ⟨p,E,e⟩),λw=>D m q (.inr (.inl w))⟩
  ·exact I.e j a m
 ·by_cases q:j=tI
  ·rw[q,aJ.d];exact Q
  ·rw[aJ.b q];exact I.nd j
 ·have B:∀{i:Nat},i≠tI->a∈o'->a∉os i:=λV m A=>by
   by_cases q:a∈os tI
   ·exact I.k _ _ a V A q
   ·exact D m q (.inr (.inr ⟨_,A⟩))
  rcases aJ.c m with⟨q,m⟩|⟨q,m⟩<;>rcases aJ.c A with⟨C,A⟩|⟨C,A⟩
  ·exact N (q.trans C.symm)
  ·exact B C m A
  ·exact B q A m
  ·exact I.k i j a N m A
 ·rw[aJ.b L];exact I.emp j L e
 ·rw[aJ.d]at m;exact S a m
 ·obtain⟨w,x,y⟩:=I.slot j s e q;rw[aJ.b (λz=>absurd (aS e) (eH.mpr (z▸F)):j≠tI)];exact⟨w,R j w x,y.mono G λa u o=>k a o⟩
def cU.place(I:cU g O X pl hold os en h)(B:pl c)(k:∀a,a≠c->h'.get? a=h.get? a)(H:∃o,h'.get? c=some o)(G:∀j s v,en[j]? =some s->s≠.a->hold j v->hold' j v):cU g O X pl hold' os en h':=by
 have A:∀{a},a≠c->(∃o,h.get? a=some o)->∃o,h'.get? a=some o:=λn=>kE λo e=>⟨o,(k _ n).trans e⟩;have D:∀{a},¬Wr O pl os a->a≠c:=λn e=>n (.inr (.inl (e▸B)));have F:∀{j a},a∈os j->a≠c:=λm e=>(I.e _ _ m).2 (e▸B);have C:(Vw X (Wr O pl os) h).le (Vw X (Wr O pl os) h'):=λa o=>And.elim λx=>And.elim λy e=>⟨x,y,(k a (D y)).trans e⟩;refine⟨λa o e=>C a o (I.base a o e),λa x=>⟨A (D (I.b a x).2) (I.b a x).1,(I.b a x).2⟩,λp E=>Ns.at (I.n p E) λo e=>(k _ ((I.l c B).2 p E)).trans e,λa x=>⟨?_,(I.l a x).2⟩,I.e,I.nd,I.k,I.emp,λa m=>A (F m) (I.q a m),λj s e q=>?_⟩
 ·by_cases q:a=c
  ·exact q▸H
  ·exact A q (I.l a x).1
 ·obtain⟨w,x,y⟩:=I.slot j s e q;exact⟨w,G j s w e q x,y.mono C λa m o e=>(k a (F m)).trans e⟩
def cU.take(I:cU g O X pl hold os en h){x:Nat}{sv:SV}{o1 o2:List Addr}(F:(os tI).Perm (o1++o2))(Y:x<en.length)(D:en.length<=tI)(o:en[x]? =some .a)(u:sv≠.a)(Z:hold x v)(y:ki g (Vw X (Wr O pl os) h) h v sv o1):
 Wr O pl ((os.f x o1).f tI o2)=Wr O pl os/\cU g O X pl hold ((os.f x o1).f tI o2) (en.set x sv) h:=by
 have Q:x≠tI:=λe=>absurd Y (eH.mpr (e▸D));have p:os x=[]:=I.emp x Q (.inr o);have N:∀{a},a∈o1->a∈os tI:=λm=>F.mem_iff.mpr (pq _ m);have G:∀{a},a∈o2->a∈os tI:=λm=>F.mem_iff.mpr (iI _ m);obtain⟨c,l,V⟩:=List.nodup_append.mp (F.nodup_iff.mp (I.nd tI));have L:((os.f x o1).f tI o2) tI=o2:=aJ.d
 have M:((os.f x o1).f tI o2) x=o1:=by rw[aJ.b Q,aJ.d]
 have E:∀{j},j≠x->j≠tI->((os.f x o1).f tI o2) j=os j:=λh h'=>by rw[aJ.b h',aJ.b h]
 have C:∀{j a},a∈((os.f x o1).f tI o2) j->(j=x/\a∈o1)\/(j=tI/\a∈o2)\/(j≠x/\j≠tI/\a∈os j):=λm=>by
  rcases aJ.c m with⟨q,m⟩|⟨q,m⟩
  ·exact .inr (.inl ⟨q,m⟩)
  ·exact(aJ.c m).imp id<|And.elim λz m=>.inr ⟨z,q,m⟩
 have U:∀{j a},a∈((os.f x o1).f tI o2) j->∃k,a∈os k:=λm=>by
  rcases C m with m |m |m
  ·exact⟨_,N m.2⟩
  ·exact⟨_,G m.2⟩
  ·exact⟨_,m.2.2⟩
 have H:Wr O pl ((os.f x o1).f tI o2)=Wr O pl os:=funext λa=>propext ⟨λw=>by
  rcases w with w |w |⟨j,w⟩
  ·exact .inl w
  ·exact .inr (.inl w)
  ·exact .inr (.inr (U w)),λw=>by
  rcases w with w |w |⟨j,w⟩
  ·exact .inl w
  ·exact .inr (.inl w)
  ·refine .inr (.inr ?_)
   by_cases q:j=tI
   ·rcases gM.mp (F.mem_iff.mp (q▸w))with w |w
    ·exact⟨x,by rw[M];exact w⟩
    ·exact⟨tI,by rw[L];exact w⟩
   ·exact⟨j,by rw[E (λz=>by rw[z,p]at w;cases w) q];exact w⟩⟩
 refine⟨H,H▸I.base,H▸I.b,I.n,I.l,λj a m=>eK (U m) λJ m=>I.e _ a m,λj=>?_,λi j a P m A=>?_,λj W e=>?_,λa m=>?_,λj s e q=>?_⟩
 ·by_cases q:j=tI
  ·rw[q,L];exact l
  ·by_cases B:j=x
   ·rw[B,M];exact c
   ·rw[E B q];exact I.nd _
 ·rcases C m with⟨q,m⟩|⟨q,m⟩|⟨q,S,m⟩<;>rcases C A with⟨B,A⟩|⟨B,A⟩|⟨B,R,A⟩
  ·exact P (q.trans B.symm)
  ·exact V a m a A rfl
  ·exact I.k _ _ a (Ne.symm R) (N m) A
  ·exact V a A a m rfl
  ·exact P (q.trans B.symm)
  ·exact I.k _ _ a (Ne.symm R) (G m) A
  ·exact I.k _ _ a S m (N A)
  ·exact I.k _ _ a S m (G A)
  ·exact I.k _ _ a P m A
 ·by_cases q:j=x
  ·rw[q,List.getElem?_set_self Y]at e;exact(e.elim nofun λe=>u (dG e)).elim
  ·rw[List.getElem?_set_ne (Ne.symm q)]at e;rw[E q W];exact I.emp j W e
 ·rw[L]at m;exact I.q a (G m)
 ·rw[H];rcases iL e with⟨rfl,rfl⟩|⟨B,e⟩
  ·rw[M];exact⟨v,Z,y⟩
  ·rw[E B (λz=>absurd (aS e) (eH.mpr (z▸D)))];exact I.slot j s e q
end
def fb(s s':Shared):Prop:=s'.gens=s.gens/\s'.os=s.os
def fb.d(s):fb s s:=⟨rfl,rfl⟩
def fb.trans(x:fb a b)(y:fb b c):fb a c:=⟨y.1.trans x.1,y.2.trans x.2⟩
def Wt{B C:Type}(g:Gd)(A:Around)(t:Sem B)(s:Shared)(r:aD C)(Q:C->B->Shared->Prop)(X:Value->Shared->Prop):Prop:=match r with
 |.oK b=>wpAny (model g.prog g.w) A t (Q b) (λz z=>False) s
 |.bG=>wpAny (model g.prog g.w) A t (λz z=>False) X s
 |.aA=>True
def E7{B:Type}(g:Gd)(A:Around)(c:Code)(s:Shared)(r:aD B)(Q:B->Value->Shared->Prop)(X:Value->Shared->Prop):Prop:=match r with
 |.oK b=>codeAny (model g.prog g.w) A c (wants (Q b) (λz z=>False)) s
 |.bG=>codeAny (model g.prog g.w) A c (wants (λz z=>False) X) s
 |.aA=>True
def pA:List Env->ie->Prop
 |[],[]=>True
 |e::l,p::O=>e.scope.kind≠.module/\e.frame=some p.1/\pA l O
 |_,_ =>False
structure mM(k n:Nat)(A:Around)(l:List Env)(O:ie):Prop where
 frames:A.frames=some l
 a:pA l O
 r:A.handled=none
 guards:A.guards=some []
 depth:A.depth+10*n+20+5*k<=recursionLimit
 units:A.units+40*n+800+20*k<=cLine
inductive XP(O:ie)(l:List Env)(cB:Addr)(W:dJ)(s₀:Shared)(e:Value)(s':Shared):Prop
 |mk (a:Addr) (a0:Value) (he:e= .ref a) (fl:∀B:Heap,(∀b o,B.get? b=some o->s₀.heap.get? b=some o/\¬W b)->Heap.FlyingW B l a (.ref cB) a0 s'.heap) (ns:∀p∈O,s'.heap.Ns p.1 p.2) (sm:fb s₀ s')
def XP.from(f:dE W s₀.heap W' s.heap)(k:fb s₀ s)(x:XP O l A W' s e s'):XP O l A W s₀ e s':=
 let⟨a,E,H,G,C,F⟩:=x
 ⟨a,E,H,λB D=>G B λb o e=>aK (D b o e) λq n=>f b o n q,C,k.trans F⟩
inductive XB(l:List Env)(cB L:Addr)(B h:Heap)(a:Addr)(a0:Value):Prop
 |held (x:Heap.HeldW B l a (.ref cB) a0 L h)
 |d (oe:Obj) (vs:Array Value) (st:B.StaysIn h) (hn:B.get? a=none) (hf:h.FunFrames B l) (h2:h.get? a=some oe) (hc:oe.cls= .ref cB) (hd:oe.data= .fields vs) (q1:vs[1]? =some .none) (q0:vs[0]? =some a0)
inductive XS(O:ie)(l:List Env)(cB:Addr)(W:dJ)(L:Addr)(s₀:Shared)(e:Value)(s':Shared):Prop
 |mk (B:Heap) (a:Addr) (a0:Value) (big:∀b o,s₀.heap.get? b=some o->¬W b->B.get? b=some o) (he:e= .ref a) (k:XB l cB L B s'.heap a a0) (out:∀p∈O,s'.heap.Ns p.1 p.2) (sm:fb s₀ s')
def XS.from(f:dE W s₀.heap W' s.heap)(k:fb s₀ s)(x:XS O l E W' L s e s'):XS O l E W L s₀ e s':=by
 obtain⟨B,a,F,A,H,G,C,D⟩:=x;exact⟨B,a,F,λb o e n=>aK (f b o n e) λq I=>A b o q I,H,G,C,k.trans D⟩
def cA:dJ:=λz=>False
def At(vals:List Value)(i:Nat)(v:Value):Prop:=vals[i]? =some v
structure QC(g:Gd)(O:ie)(X:dJ)(vals:List Value)(os:aJ)(s₀:Shared)(b:SV×List SV)(v:Value)(s':Shared)(os':aJ):Prop where
 fr:dE (Wr O cA os) s₀.heap (Wr O cA os') s'.heap
 sm:fb s₀ s'
 core:cU g O X cA (At vals) os' b.2 s'.heap
 e:ki g (Vw X (Wr O cA os') s'.heap) s'.heap v b.1 (os' tI)
def fP(g:Gd)(I:Addr)(D:Nat->List SV->aD (SV×List SV))(n:Nat)(G:Nat->Nat):Prop:=
 ∀{A:Around} {l:List Env} {O:ie} {X:dJ} {s:Shared} {f:Nat} {B:List Value} {C:List SV} {E:aJ},mM 0 n A l O->cU g O X cA (At B) E C s.heap->B.length=C.length->E tI=[]->
  E7 g A (.call (.ref (g.iH f)) ⟨B,[]⟩) s (D f C) (λb v H=>b.2.length=G f/\∃F,QC g O X B E s b v H F) (XP O l I (Wr O cA E) s)
def Ce(ah:Env)(x:Str)(l:Loc):Prop:=
 (ah.kindOf x=some .local/\l= .l ah.locals x)\/((ah.kindOf x=some .cell\/ah.kindOf x=some .free)/\∃c,ah.cells.lookup x=some c/\l= .c c)
noncomputable def fA(x:Str):Bool:= !(x==("__debug__" :Str))&& !(x==("__classdict__" :Str))
structure cZ where
 g:Gd
 cB:Addr
 G:jn
 call:Nat->List SV->aD (SV×List SV)
 n:Nat
 gU:Nat->Nat
 co:fP g cB call n gU
 sc:Scope
 dY:List (Str×Nat)
 b:Nat->Bool
 lo:Nat
structure aU(S:cZ)where
 A:Around
 ah:Env
 l:List Env
 O:ie
 cx:Nat->Option Loc
 X:dJ
 kp:Nat->Bool
 st:Bool
 f:ah.scope.kind= .function
 glob:ah.globals=mainGlobals
 blt:ah.builtins=builtinsNs
 L:Addr
 Li:Nat
 Lx:Str
 frame:ah.frame=some L
 p:cx Li=some (.l L Lx)
 t:∀i l,cx i=some l->S.b i=true
 ig:∀m,mM 1 S.n A l ((L,m)::O)
 v:∀x i,S.dY.lookup x=some i->∃l,cx i=some l/\Ce ah x l
 gl:∀x k,S.sc.names.lookup x=some k->k≠.free->ah.kindOf x=some k
section
variable {S:cZ}
def aU.pl(R:aU S):dJ:=λa=> ∃i l,R.cx i=some l/\l.b=a
def aU.hold(R:aU S)(h:Heap)(i:Nat)(v:Value):Prop:= ∃l,R.cx i=some l/\l.holds h v
abbrev aU.W(R:aU S)(os:aJ):dJ:=Wr R.O R.pl os
abbrev aU.V(R:aU S)(os:aJ)(h:Heap):cR:=Vw R.X (R.W os) h
structure eO(R:aU S)(os:aJ)(en:List SV)(s:Shared):Prop where
 c:cU S.g R.O R.X R.pl (R.hold s.heap) os en s.heap
 oK:∀i l,R.cx i=some l->l.okIn s.heap
 inj:∀i j l,R.cx i=some l->R.cx j=some l->i=j
 E:en.length<=tI
structure bo(R:aU S)(os:aJ)(en:List SV)(s:Shared):Prop extends eO R os en s where
 tm:os tI=[]
def ku(R:aU S)(h h':Heap):Prop:=∀i l v,R.cx i=some l->l.holds h v->l.holds h' v
structure Le(R:aU S)(os:aJ)(s:Shared)(os':aJ)(s':Shared):Prop where
 f:dE (R.W os) s.heap (R.W os') s'.heap
 m:fb s s'
 k:∀i,R.kp i=true->∀l v,R.cx i=some l->l.holds s.heap v->l.holds s'.heap v
def Le.d{R:aU S}{os:aJ}{s:Shared}:Le R os s os s:=⟨.d _ _,.d _,λz z z z z h=>h⟩
def Le.trans{R:aU S}{os os' A:aJ}{s s' B:Shared}(x:Le R os s os' s')(y:Le R os' s' A B):Le R os s A B:=
 ⟨x.f.trans y.f,x.m.trans y.m,λi q l v e h=>y.k i q l v e (x.k i q l v e h)⟩
def Le.b{R:aU S}{os:aJ}{s s':Shared}(k:s.heap.StaysIn s'.heap)(m:fb s s'):Le R os s os s':=⟨.b k,m,λz z z z z h=>h.at λo=>k _ o⟩
def Le.tok{R:aU S}{os:aJ}{s:Shared}{t:Nat}:Le R os s os {s with toks:=t}:=⟨.d _ _,⟨rfl,rfl⟩,λz z z z z h=>h⟩
def XE(R:aU S)(W:dJ)(s₀:Shared)(e:Value)(s':Shared):Prop:=XP R.O R.l S.cB W s₀ e s'\/R.st=true/\XS R.O R.l S.cB W R.L s₀ e s'
def XE.from(f:dE W s₀.heap W' s.heap)(k:fb s₀ s)(x:XE R W' s e s'):XE R W s₀ e s':=x.imp (XP.from f k) λA=>by obtain⟨q,x⟩:=A;exact⟨q,x.from f k⟩
inductive JP{α β:Type}(R:aU S)(os:aJ)(s:Shared)(P:aJ->β->α->Shared->Prop)(b:β)(v:α)(s':Shared):Prop
 |mk (os':aJ) (le:Le R os s os' s') (p:P os' b v s')
theorem JP.a{B A:Type}{R:aU S}{os:aJ}{s:Shared}{P:aJ->A->B->Shared->Prop}{b:A}{v:B}{s':Shared}{C:Prop}(f:∀os',Le R os s os' s'->P os' b v s'->C):JP R os s P b v s'->C
 |⟨os',l,p⟩=>f os' l p
def J{B C:Type}(R:aU S)(os:aJ)(s:Shared)(t:Sem B)(r:aD C)(P:aJ->C->B->Shared->Prop):Prop:=
 Wt S.g R.A t s r (λb v D=>JP R os s P b v D) (XE R (R.W os) s)
section
variable {α β γ δ:Type}{R:aU S}{os os':aJ}{s s':Shared}{P:aJ->β->α->Shared->Prop}{P':aJ->δ->γ->Shared->Prop}
def Wt.mono(h:Wt g A t s r Q X)(C:∀b a s',Q b a s'->B b a s')(D:∀e s',X e s'->X' e s'):Wt g A t s r B X':=by
 induction r using Mine.bf with
 |oK b=>exact wpAny_mono h (C b) λz z x=>x
 |bG=>exact wpAny_mono h (λz z x=>x) D
 |aA=>exact h
def J.here(h:P os b a s):J R os s (pure a) (.oK b) P:=wpAny_pure ⟨os,.d,h⟩
def J.mono{t:Sem α}{r:aD β}{P':aJ->β->α->Shared->Prop}(h:J R os s t r P)(k:∀os' b v s',P os' b v s'->P' os' b v s'):J R os s t r P':=Wt.mono h (λb v s' A=>by obtain⟨os',l,p⟩:=A;exact⟨os',l,k os' b v s' p⟩) λz z x=>x
def J.from(l:Le R os s os' s')(h:Wt S.g R.A t s' r (λb v B=>JP R os' s' P b v B) (XE R (R.W os') s')):Wt S.g R.A t s' r (λb v B=>JP R os s P b v B) (XE R (R.W os) s):=
 Wt.mono h (λz z z=>JP.a λD C p=>⟨D,l.trans C,p⟩) λz z x=>x.from l.f l.m
def J.O{K:α->Shared->Prop}{t:Sem α}{C:Sem γ}{k:α->Sem γ}{r:aD β}{f:β->aD δ}
 (imp:∀(D:γ->Shared->Prop) (E:Value->Shared->Prop),wpAny (model S.g.prog S.g.w) R.A t (λa s'=>K a s'/\wpAny (model S.g.prog S.g.w) R.A (k a) D E s') E s->wpAny (model S.g.prog S.g.w) R.A C D E s)
 (h:J R os s t r P) (F:∀os' b v s',Le R os s os' s'->P os' b v s'->f b≠.aA->K v s'/\J R os' s' (k v) (f b) P'):J R os s C (r.i f) P':=by
 induction r using Mine.bf with
 |oK b=>
  have B:f b≠.aA->∀v s',(JP R os s P b v s')->K v s'/\Wt S.g R.A (k v) s' (f b) (λb v G=>JP R os s P' b v G) (XE R (R.W os) s):=
   λn v s'=>JP.a λos' l p=>aK (F os' b v s' l p n) λq j=>⟨q,J.from l j⟩
  show Wt S.g R.A C s (f b) _ _
  induction e:f b using Mine.bf with
  |oK d=>rw[e]at B;exact imp _ _ (wpAny_mono h (B nofun) λz z x=>x)
  |bG=>rw[e]at B;exact imp _ _ (wpAny_mono h (B nofun) λz z x=>x.elim)
  |aA=>trivial
 |bG=>exact imp _ _ (wpAny_mono h (λz z x=>x.elim) λz z x=>x)
 |aA=>trivial
def J.seq{t:Sem α}{C:Sem γ}{k:α->Sem γ}{r:aD β}{f:β->aD δ}
 (imp:∀(B:γ->Shared->Prop) (E:Value->Shared->Prop),wpAny (model S.g.prog S.g.w) R.A t (λa s'=>wpAny (model S.g.prog S.g.w) R.A (k a) B E s') E s->wpAny (model S.g.prog S.g.w) R.A C B E s)
 (h:J R os s t r P) (D:∀os' b v s',Le R os s os' s'->P os' b v s'->J R os' s' (k v) (f b) P'):J R os s C (r.i f) P':=
 J.O (K:=λz z=>True) (λB E h=>imp B E (wpAny_mono h (λz z x=>x.2) λz z x=>x)) h λos' b v s' l p z=>⟨trivial,D os' b v s' l p⟩
def J.i(h:J R os s t r P)(A:∀os' b v s',Le R os s os' s'->P os' b v s'->J R os' s' (k v) (f b) P'):J R os s (t>>=k) (r.i f) P':=
 J.seq (λz z h=>wpAny_bind h) h A
def J.step(h:wpAny (model S.g.prog S.g.w) R.A t (λa s'=>Le R os s os s'/\J R os s' (k a) r P') (λz z=>False) s):J R os s (t>>=k) r P':=
 J.seq (P:=λo (_:Unit) v s'=>o=os/\J R os s' (k v) r P') (r:=.oK ()) (f:=λz=>r) (λz z h=>wpAny_bind h) (wpAny_mono h (λz z x=>⟨os,x.1,rfl,x.2⟩) λz z x=>x) λz z z z z=>And.elim λe j=>by rw[e];exact j
def J.j{t:Sem α}{r:aD γ}{f:γ->aD β}(A:r≠.bG)(h:∀b,r= .oK b->J R os s t (f b) P):J R os s t (r.i f) P:=by
 induction r using Mine.bf with
 |oK b=>exact h b rfl
 |bG=>exact absurd rfl A
 |aA=>trivial
def J.l(h:J R os s t r P):J R os s (holding vs t) r P:=by
 induction r using Mine.bf with
 |oK b=>exact wpAny_holding h
 |bG=>exact wpAny_holding h
 |aA=>exact h
def J.h(h:J R os s (k ()) r P):J R os s (standAt p>>=k) r P:=
 J.step (wpAny_standAt ⟨.d,h⟩)
def J.post{t:Sem α}{r:aD γ}{f:γ->aD β}{P':aJ->γ->α->Shared->Prop}(h:J R os s t r P')(C:∀os' b v s',P' os' b v s'->f b≠.bG/\∀c,f b= .oK c->P os' c v s'):J R os s t (r.i f) P:=by
 induction r using Mine.bf with
 |oK b=>
  show Wt S.g R.A t s (f b) _ _
  induction e:f b using Mine.bf with
  |oK c=>exact wpAny_mono h (λv s' B=>by obtain⟨os',l,p⟩:=B;exact⟨os',l,(C os' b v s' p).2 c e⟩) λz z x=>x
  |bG=>exact wpAny_mono h (λv s' B=>by obtain⟨os',l,p⟩:=B;exact absurd e (C os' b v s' p).1) λz z x=>x.elim
  |aA=>trivial
 |bG=>exact h
 |aA=>trivial
end
end
def cQ{A:Type}{o:Option A}:aD.d o≠.bG:=by cases o<;>exact nofun
def cM{A:Type}{o:Option A}{a:A}(h:aD.d o= .oK a):o=some a:=by
 induction o using aF with
 |none=>cases h
 |some b=>cases h;rfl
def aE{B A C:Type}{r:aD B}{f:B->aD A}{k:A->aD C}:(r.i f).i k=r.i λx=>(f x).i k:=by cases r<;>rfl
def su{P:AV->Prop}(v:AV)(z:P .r)(b:∀x,P (.u x))(i:∀x,P (.m x))(s:∀x,P (.j x))(f:∀x,P (.s (.fn x)))(t:∀l,P (.tup l))(l:∀l,P (.aj l))(o:∀k l,P (.n (k+2) l)):P v:=
 AV.casesOn v (λc=>Sc.casesOn c z b i s f) λk r=>Nat.casesOn k (t r) λk=>Nat.casesOn k (l r) λk=>o k r
def qA(h:c_ v= .oK b):v= .u b:=by
 induction v using su with
 |b=>cases h;rfl
 |_ =>cases h
def qB:c_ v≠.bG:=by
 induction v using su<;>exact nofun
def tQ(h:intOf v= .oK b):v= .m b:=by
 induction v using su with
 |i=>cases h;rfl
 |_ =>cases h
def tR:intOf v≠.bG:=by
 induction v using su<;>exact nofun
section
variable {g:Gd}{V:cR}{v:Value}
def cf.m(h:cf g V v (.m i)):∃t,v= .int i t:=by
 cases(show aZ g v (.m i)from h);exact⟨_,rfl⟩
def cf.u(h:cf g V v (.u b)):v= .bool b:=by
 cases(show aZ g v (.u b)from h);rfl
def cf.r(h:cf g V v .r):v= .none:=by
 cases(show aZ g v .r from h);rfl
def cf.fn(h:cf g V v (.s (.fn f))):v= .ref (g.iH f):=by
 cases(show aZ g v (.fn f)from h);rfl
def cf.j(h:cf g V v (.j x)):∃t,v= .str x t:=by
 cases(show aZ g v (.j x)from h);exact⟨_,rfl⟩
inductive Ng(V:cR)(ob:Array Value->Nat->Obj)(v:Value)(vs:List Value)(as:List Addr):Prop
 |mk (a:Addr) (arr:Array Value) (n:Nat) (e:v= .ref a) (q:V a (ob arr n)) (e2:arr.toList=vs) (e3:as=[a])
inductive Ry(g:Gd)(V:cR)(c:Nat)(v:Value)(vs:List Value)(as:List Addr):Prop
 |mk (a d:Addr) (es:List DictEntry) (n:Nat) (e:v= .ref a) (q1:V a (instObj (g.cls c) d)) (q2:V d (dictOf es n)) (hk:aT (qF g) es ((g.fld c).take es.length)) (e2:vs=es.map (·.val)) (e3:as=[a,d])
def dz.f(h:dz g V 0 v vs as):Ng V de v vs as:=by
 cases h with |tup e=>exact⟨_,_,_,rfl,e,rfl,rfl⟩
def dz.b(h:dz g V 1 v vs as):Ng V listOf v vs as:=by
 cases h with |aj e=>exact⟨_,_,_,rfl,e,rfl,rfl⟩
def dz.inv2(h:dz g V (c+2) v vs as):Ry g V c v vs as:=by
 cases h with |obj e B A=>exact⟨_,_,_,_,rfl,e,B,A,rfl,rfl⟩
inductive Nf(g:Gd)(V:cR)(ob:Array Value->Nat->Obj)(v:Value)(l:List AV):Prop
 |mk (a:Addr) (arr:Array Value) (n:Nat) (e:v= .ref a) (q:V a (ob arr n)) (r:cm g V arr.toList l) (b:l.length<=dF)
def cf.aj(h:cf g V v (.aj l)):Nf g V listOf v l:=by
 obtain⟨B,C,s,r,b⟩:=h.node;obtain⟨a,A,n,e,q,rfl,_⟩:=s.b;exact⟨a,A,n,e,q,r,b⟩
def cf.tup(h:cf g V v (.tup l)):Nf g V de v l:=by
 obtain⟨B,C,s,r,b⟩:=h.node;obtain⟨a,A,n,e,q,rfl,_⟩:=s.f;exact⟨a,A,n,e,q,r,b⟩
def cf.c(q:V a (listOf arr n))(r:cm g V arr.toList l)(b:l.length<=dF):cf g V (.ref a) (.aj l):=.mk (.aj q) r b
def cf.d(q:V a (de arr n))(r:cm g V arr.toList l)(b:l.length<=dF):cf g V (.ref a) (.tup l):=.mk (.tup q) r b
def bX{arr:Array Value}{l:List AV}(r:cm g V arr.toList l):arr.size=l.length:=by rw[<-r.E,mF]
end
def IU(g:Gd)(V:cR)(s s':Shared)(v:Value)(l:List AV):Prop:=RS (λa A n=>v= .ref a) (λa A n=>s.heap.get? a=none) (λa A n=>s'.heap.get? a=some (listOf A n)) (λa A n=>cm g V A.toList l) (λa A n=>l.length<=dF) (λa A n=>s.heap.StaysIn s'.heap) (λa A n=>fb s s')
def y7(g:Gd)(V:cR)(s:Shared)(w:AV)(v:Value)(s':Shared):Prop:=(s.heap.StaysIn s'.heap/\fb s s'/\cf g V v w/\qp w= .h w)\/∃l,w= .aj l/\IU g V s s' v l
def dR(h:Heap):h.StaysIn h:=λz z e=>e
def y7.ir(r:aZ g v c):y7 g V s (.s c) v {s with toks:=t}:=.inl ⟨dR _,⟨rfl,rfl⟩,r,rfl⟩
def y7.push(r:cm g V arr.toList l)(b:l.length<=dF):y7 g V s (.aj l) (.ref s.heap.objs.size) {s with heap:=s.heap.push (listOf arr 0)}:=
 .inr ⟨l,rfl,_,arr,0,rfl,bJ,ib _ rfl,r,b,aI,rfl,rfl⟩
def log2_lt(h:a<2^k)(A:0<k):a.log2<k:=by
 by_cases q:a=0
 ·subst q;simpa using A
 ·exact(Nat.log2_lt q).mpr h
def oF(h:i.natAbs<2^k)(A:0<k):Builtin.Int.intBits i<=k:=by
 unfold Builtin.Int.intBits
 split
 ·exact da _
 ·have:=log2_lt h A;exact this
theorem jH{A:Type}:∀(l:List (Array A)) (acc:Array A),(l.foldl (λx y=>x++y) acc).toList=acc.toList++(l.map Array.toList).flatten
 |[],acc=>by rw[List.foldl_nil,List.map_nil,List.flatten_nil,List.append_nil]
 |a::l,acc=>by rw[List.foldl_cons,jH l,Array.toList_append,iC,List.map_cons,List.flatten_cons]
theorem mN(l):∀n,(x9 n l).length=l.length*n
 |0=>rfl
 |n+1=>dc.trans (by rw[mN l n,Nat.mul_succ,Nat.add_comm])
theorem og(h:cm g V vs l):∀n,cm g V (List.replicate n vs).flatten (x9 n l)
 |0=>.j
 |n+1=>h.I (og h n)
def fQ(h:Cj f a=some w):f9 (λi=>a= .m i) (λi=>f i=some w):=by
 induction a using su with
 |i=>exact⟨_,rfl,h⟩
 |_ =>cases h
def kU(h:Gv f a=some w):f9 (λi=>a= .j i) (λi=>f i=some w):=by
 induction a using su with
 |s=>exact⟨_,rfl,h⟩
 |_ =>cases h
def nQ(h:I_ f a=some w):f9 (λl=>a= .aj l) (λl=>f l=some w):=by
 induction a using su with
 |l=>exact⟨_,rfl,h⟩
 |_ =>cases h
def sH(h:Nz f a=some w):f9 (λb=>a= .u b) (λb=>f b=w):=by
 induction a using su with
 |b=>exact⟨_,rfl,dG h⟩
 |_ =>cases h
def fK{A:Type}{c:Prop}[Decidable c]{o:Option A}{w:A}(h:(if c then o else none)=some w):c/\o=some w:=by
 by_cases q:c
 ·rw[if_pos q]at h;exact⟨q,h⟩
 ·rw[if_neg q]at h;cases h
def hM(o:Operator)(f:AV->AV->Option AV):Prop:=∀{g:Gd} {V:cR} {s:Shared} {A:Around} {E:Value->Shared->Prop} {x y w:AV} {B C:Value},V.le (gJ s.heap)->f x y=some w->cf g V B x->cf g V C y->wpAny (model g.prog g.w) A (binaryOp o B C) (y7 g V s w) E s
def hM.ints(h:∀{g:Gd} {s:Shared} {A:Around} {E:Value->Shared->Prop} {i j:Int} {t u:Tok} {w:AV} {Q:Value->Shared->Prop},f i j=some w->(∀k t,w= .m k->Q (.int k t) {s with toks:=s.toks+1})->wpAny (model g.prog g.w) A (binaryOp o (.int i t) (.int j u)) Q E s):hM o (EU f):=by
 intro g V s A E x y w H I _ F D G;obtain⟨i,rfl,B⟩:=fQ F;obtain⟨j,rfl,C⟩:=fQ B;obtain⟨t,rfl⟩:=D.m;obtain⟨u,rfl⟩:=G.m;exact h C λk t e=>e▸.ir (aZ.m k t)
def EN:hM .Sub (EU λi j=>some (.m (i-j))):=hM.ints λA h=>AutoIntOps.sub_0 (h _ _ (dG A).symm)
def ES:hM .Mod (EU λi j=>if 0<j then some (.m (i.fmod j))else none):=hM.ints λA h=>by
 exact lr A λq A=>(AutoIntOps.mod_1 (by rw[beq_iff_eq];exact Int.ne_of_gt q) (h _ _ (dG A).symm))
def BP:hM .FloorDiv (EU λi j=>if 0<j/\j<2^40 then some (.m (i.fdiv j))else none):=hM.ints λ{g s A E i j t u w Q} B h=>by
 refine lr B λq B=>?_;refine AutoIntOps.floordiv_1 (by rw[beq_iff_eq];exact Int.ne_of_gt q.1) ?_ (h _ _ (dG B).symm)
 rw[(by
  unfold Builtin.divisionGoesByPylong;simp only[Bool.and_eq_false_iff]
  left
  split<;>simp<;>exact az (Nat.div_le_self _ _) (zT (fj (log2_lt (show j.natAbs<2^40 from Ob q.1 q.2) (by decide))) rfl):(Builtin.divisionGoesByPylong i j)=false)];decide
def EP:hM .Pow (EU λi j=>if(1<j/\j<=100)/\1<i/\i<2^64 then some (.m (i^j.toNat))else none):=hM.ints λ{g s A E i j t u w Q} F h=>by
 refine lr F λG F=>?_;obtain⟨⟨D,H⟩,C,q4⟩:=G;have B:∀{a b:Int},a≠b->¬(a==b)=true:=λh e=>h (beq_iff_eq.mp e);refine AutoIntOps.pow_4 (Int.le_of_lt (Int.lt_trans (by decide) D)) (B λe=>absurd (e▸D) (by decide)) (λe=>?_) (B λe=>absurd (e▸C) (by decide)) ?_ (h _ _ (dG F).symm)
 ·rcases Bool.or_eq_true_iff.mp e with e |e
  ·exact B (λe=>absurd (e▸C) (by decide)) e
  ·exact B (λe=>absurd (e▸C) (by decide)) e
 ·unfold Builtin.Int.intTooBig;simp only[decide_eq_true_eq,Int.not_lt];exact Int.le_trans (Int.mul_le_mul (show((Builtin.Int.intBits i:Nat):Int)<=64 from Int.ofNat_le.mpr (oF (i:=i) (k:=64) (N' C q4) (by decide))) H (Int.le_of_lt (Int.lt_trans (by decide) D)) (by decide)) (by decide)
def ET:hM .Add M9:=by
 intro g V s A E x y w N O F B C D
 induction x using su with
 |i=>
  obtain⟨j,rfl,B⟩:=fQ B;obtain⟨t,rfl⟩:=C.m;obtain⟨u,rfl⟩:=D.m;exact AutoIntOps.add_0 (dG B▸.ir (aZ.m _ _))
 |s=>
  obtain⟨j,rfl,B⟩:=kU B;refine lr B λq B=>?_;obtain⟨t,rfl⟩:=C.j;obtain⟨u,rfl⟩:=D.j;exact SB.add (λS k=>dG B▸.ir (aZ.j _ _)) (az q (show(10000:Nat)<=sizeLine by decide))
 |l=>
  obtain⟨k,rfl,B⟩:=nQ B;refine lr B λq B=>?_;obtain⟨a,I,n,rfl,M,G,_⟩:=C.aj;obtain⟨b,R,Q,rfl,L,H,_⟩:=D.aj;exact P.add_list (F _ _ M) (F _ _ L) (dG B▸.push (by rw[Array.toList_append];exact G.I H) (by rw[dc];exact az q (by decide))) (az (Nat.add_le_add (Nat.le_of_eq (bX G)) (Nat.le_of_eq (bX H))) (az q (by decide:(10000:Nat)<=sizeLine)))
 |_ =>cases B
def ER:hM .Mult Lo:=by
 intro g V s A E x y w Q R N C L M
 induction x using su with
 |i=>
  obtain⟨j,rfl,C⟩:=fQ C;refine lr C λq C=>?_;obtain⟨t,rfl⟩:=L.m;obtain⟨u,rfl⟩:=M.m;exact AutoIntOps.mul_0 (dG C▸.ir (aZ.m _ _)) (IntMulOk.of_left (az (oF q.1 (by decide)) (by decide)))
 |l l=>
  obtain⟨i,rfl,C⟩:=fQ C;refine lr C λB C=>?_;obtain⟨a,D,n,rfl,P,H,_⟩:=L.aj;obtain⟨u,rfl⟩:=M.m
  have I:D.size*i.toNat<=10000:=by rw[(bX H)];exact B.1
  have S:i.natAbs<2^40:=B.2;have G:=N _ _ P
  refine wpAny_binaryOp_repeat_ref (T:="list") (U:="int") (by decide) ⟨_,G,rfl⟩ (λO=>typeIs_int O i u) noFill_list_mul PySem.F.fills_int_mul PySem.F.slot_int_rmul repeat_list PySem.F.slot_int_index.lookup
   (call_meets PySem.F.slot_int_rmul (typeIs_int s i u) PySem.F.entry_int_rmul (PySem.F.args_int_rmul_2 _ _) (lm_int_rmul_list_any i u a D n none #[])
    ⟨G,rfl,⟨_,G,rfl⟩,call_meets PySem.F.slot_list_mul ⟨_,G,rfl⟩ PySem.F.entry_list_mul (PySem.F.args_list_mul_2 _ _)
     (lm_list_mul_any a D n none #[] i u (by simp[Builtin.List.listFitsIndex];exact Oa B.2) (eH.mpr (zT I rfl)) (by simp[Builtin.List.listTooLong,sizeLine];exact zT I rfl))
     ⟨G,?_⟩⟩)
  cases dG C;refine y7.push (V:=V) ?_ (by rw[mN];exact az B.1 (by decide));rw[jH]
  by_cases q:D.isEmpty=true
  ·rw[(by rw[Array.isEmpty_iff.mp q]:D.toList=[])]at H
   simpa [q]using og H i.toNat
  ·simpa [q]using og H i.toNat
 |_ =>cases C
end Mine
namespace Mine
open PySem PySem.W PyProof.Rows PySem.Calls PySem.SeqAt
section
variable {g:Gd}{h:Heap}
mutual
theorem fF:∀(x:AV) {v:Value} {d:PyData},cf g (gJ h) v x->x.data=some d->f9 (λas=>Reads h v d as) (λas=>d.canLay0=true)
 |.s c,v,d,hr,e=>by
  cases(hr:aZ g v c)with
  |r=>cases e;exact⟨_,.none,rfl⟩
  |u b=>cases e;exact⟨_,.bool b,rfl⟩
  |m i t=>cases e;exact⟨_,.int i t,rfl⟩
  |j x t=>
   refine lr (show(if PyData.strOk x then some (PyData.str x)else none)=some d from e) λq e=>?_;cases e;exact⟨_,.str x t,q⟩
  |fn f=>cases e
 |.n k l,v,d,hr,e=>by
  obtain⟨H,as,s,r,b⟩:=(show ∃H as,_ from hr);refine dg (show((cb l).bind λD=>if k=0 then some (PyData.tuple D)else if k=1 then some (PyData.list D)else none)=some d from e) λD L A=>?_;obtain⟨N,F,G⟩:=g7 l r L
  by_cases E:k=0
  ·refine bB λO I=>?_;obtain⟨a,B,n,rfl,C,rfl,_⟩:=(E▸s).f;rw[if_pos E]at A;cases A;exact I (⟨_,.tuple C rfl rfl F,G⟩)
  ·rw[if_neg E]at A;refine lr A λM A=>?_;obtain⟨a,B,n,rfl,C,rfl,_⟩:=(M▸s).b;cases A;exact⟨_,.list C rfl rfl F,G⟩
theorem g7:∀(l:List AV) {vs:List Value} {A:List PyData},kN g (gJ h) vs l->cb l=some A->f9 (λas=>ReadsAll h vs A as) (λas=>PyData.canLayAll0 A=true)
 |[],vs,A,hr,e=>by
  cases(show vs=[]from hr)
  cases e;exact⟨_,.nil,rfl⟩
 |a::l,vs,A,hr,e=>by
  refine bB λO B=>?_;obtain⟨v,r,rfl,L,I⟩:=(show ∃v r,_ from hr);refine dg (show(a.data.bind λd=>(cb l).map λA=>d::A)=some A from e) λd C F=>?_;refine pK F λN H G=>?_;obtain rfl:=G;obtain⟨_,E,M⟩:=fF a L C;obtain⟨_,D,q4⟩:=g7 l I H;exact B (⟨_,.cons E D,jo.mpr ⟨M,q4⟩⟩)
end
def k7(e:x8 x=some s):x= .j s:=by
 induction x using su with
 |s=>cases e;rfl
 |_ =>cases e
def jE(e:FP x=some i):x= .m i:=by
 induction x using su with
 |i=>cases e;rfl
 |_ =>cases e
theorem qD:∀{l:List AV} {r:List Str},p_ l=some r->l=r.map .j
 |[],r,e=>by cases e;rfl
 |a::l,r,e=>by
  refine dg (show((x8 a).bind λx=>(p_ l).map λr=>x::r)=some r from e) λx A B=>?_;refine pK B λE D C=>?_;obtain rfl:=C;rw[k7 A,qD D];rfl
end
noncomputable def gh:IZ->CmpOp |.eq=>.Eq |.ne=>.NotEq |.lt=>.Lt |.le=>.LtE |.gt=>.Gt |.ge=>.GtE |.is=>.Is |.b=>.IsNot |.c=>.In |.a=>.NotIn
section
variable {g:Gd}{s:Shared}{A:Around}{E:Value->Shared->Prop}{x y:AV}{v v':Value}{r:Bool}
def H4{P:Option Bool->Prop}(h1:∀a b,x8 x=some a->x8 y=some b->P (some (a==b)))(B:P (Uc x y)):P (eqv x y):=by
 unfold eqv
 induction e1:x8 x using aF with
 |none=>exact B
 |some a=>
  induction e2:x8 y using aF with
  |none=>exact B
  |some b=>exact h1 a b e1 e2
def Bj(G:A.units+60<cLine)(H:cf g (gJ s.heap) v x)(M:cf g (gJ s.heap) v' y):eqv x y=some r->RcAt A s v v' r/\RcNeAt A s v v' (!r):=by
 refine H4 (P:=λo=>o=some r->_) (λa b B C e=>?_) λe=>?_
 ·obtain⟨t,rfl⟩:=(k7 B▸H).j;obtain⟨u,rfl⟩:=(k7 C▸M).j;cases e;exact⟨.str_str a t b u,.str_str a t b u⟩
 ·refine bB λR N=>?_;refine dg e λd B C=>?_;refine dg C λS Q e4=>?_;refine lr e4 λq O=>?_;cases O;obtain⟨_,F,I⟩:=fF x H B;obtain⟨_,L,D⟩:=fF y M Q;exact N (⟨rcAt_reads F L I D (zU G q),rcNeAt_reads F L I D (zU G q)⟩)
def DQ{P:Option Bool->Prop}(h1:∀a b,x8 x=some a->p_ l=some b->P (some (b.any λy=>y==a)))(B:P (x.data.bind λd=>(cb l).bind λC=>if min (PyData.depthAll C) d.depth<=50 then some (C.any λy=>PyData.eqv y d)else none)):P (DR x l):=by
 unfold DR
 induction e1:x8 x using aF with
 |none=>exact B
 |some a=>
  induction e2:p_ l using aF with
  |none=>exact B
  |some b=>exact h1 a b e1 e2
def w5{l:List AV}{arr:Array Value}(R:A.units+60<cLine)(H:cf g (gJ s.heap) v x)(F:cm g (gJ s.heap) arr.toList l):DR x l=some r->∃f:Value->Bool,(∀y,y∈arr->EqAt A.in1 s y v (f y))/\arr.any f=r:=by
 refine DQ (P:=λo=>o=some r->_) (λa b C D e=>?_) λe=>?_
 ·obtain⟨t,rfl⟩:=(k7 C▸H).j;cases e;cases qD D
  refine⟨λy=>match y with |.str z _ =>z==a |_ =>false,λy Z=>?_,by rw[<-Array.any_toList];exact(by
   intro b
   induction b with
   |nil=>intro B h;cases h;rfl
   |cons z b O=>
    intro B h
    cases h with
    |u Y W=>
     obtain⟨u,rfl⟩:=Y.j
     rw[List.any_cons,O _ W];rfl:∀(b:List Str) (B:List Value),cm g (gJ s.heap) B (b.map .j)->B.any (λy=>match y with |.str z _ =>z==a |_ =>false)=b.any λy=>y==a) _ _ F⟩
  obtain⟨w,X,M⟩:=F.mem (Array.mem_toList_iff.mpr Z);refine bZ X λz J S=>?_;obtain rfl:=S;obtain⟨u,rfl⟩:=M.j;exact .str_str z u a t
 ·refine bB λj L=>?_;refine dg e λd C D=>?_;refine dg D λk V e4=>?_;refine lr e4 λq Q=>?_;cases Q;obtain⟨_,N,U⟩:=fF x H C;obtain⟨_,I,G⟩:=g7 l (kN.iff.mpr F) V;exact L (⟨_,items_eqAt I N G U (R0 R q),any_by_data I G⟩)
def tN(B:cf g (gJ s.heap) v x):(v==.none)=oE x:=by
 induction x using Mine.AV.casesOn with
 |s c=>cases(show aZ g v c from B)<;>rfl
 |n k l=>
  obtain⟨C,D,s,_⟩:=B.node;cases s<;>rfl
def xc(e:oE x=true):x= .r:=by
 induction x using su with
 |z=>rfl
 |_ =>cases e
def lV(h:k<2):k=0\/k=1:=Gj h
def eQ(e:dT x=some (k,l)):x= .n k l:=by
 induction x using Mine.AV.casesOn with
 |s c=>cases e
 |n C B=>cases e;rfl
def aQ{h:Heap}{a:Addr}{vs:Array Value}{n:Nat}(e:h.get? a=some (listOf vs n)):h.IsList a vs:=⟨_,e,rfl,n,rfl⟩
def bY{h:Heap}{a:Addr}{vs:Array Value}{n:Nat}(e:h.get? a=some (de vs n)):h.IsTuple a vs:=⟨_,e,rfl,n,rfl⟩
def w6(I:A.units+60<cLine)(e:Hp x y=some r)(L:cf g (gJ s.heap) v x)(H:cf g (gJ s.heap) v' y):
 (∀Q:Value->Shared->Prop,Q (.bool r) s->wpAny (model g.prog g.w) A (compareOp .In v v') Q E s)/\∀Q:Value->Shared->Prop,Q (.bool (!r)) s->wpAny (model g.prog g.w) A (compareOp .NotIn v v') Q E s:=by
 refine bB λU O=>?_;refine dg e λS P R=>?_;obtain⟨k,l⟩:=S;refine lr R λq M=>?_;cases eQ P;refine O ?_;rcases lV q with rfl |rfl
 ·obtain⟨a,N,n,rfl,D,G,_⟩:=cf.tup H;obtain⟨f,F,C⟩:=w5 I L G M;exact⟨λQ B=>in_tupleAt f (bY D) F (C▸B),λQ B=>notIn_tupleAt f (bY D) F (C▸B)⟩
 ·obtain⟨a,N,n,rfl,D,G,_⟩:=cf.aj H;obtain⟨f,F,C⟩:=w5 I L G M;exact⟨λQ B=>in_listAt f (aQ D) F (C▸B),λQ B=>notIn_listAt f (aQ D) F (C▸B)⟩
def Ig(H:A.units+60<cLine)(e:d_ o x y=some r)(C:cf g (gJ s.heap) v x)(D:cf g (gJ s.heap) v' y)(B:Q (.bool r) s):wpAny (model g.prog g.w) A (compareOp (gh o) v v') Q E s:=by
 have G:∀p,AR p x y=some r->IV (λi t j u=>v= .int i t) (λi t j u=>v'= .int j u) (λi t j u=>r=p i j):=λp e=>by
  refine bB λR M=>?_;refine dg e λi N F=>?_;refine pK F λj O e4=>?_;obtain⟨t,rfl⟩:=(jE N▸C).m;obtain⟨u,rfl⟩:=(jE O▸D).m;exact M (⟨_,_,_,_,rfl,rfl,e4.symm⟩)
 have L:∀b,(if oE y then some b else none)=some r->v'= .none/\b=r:=λb e=>by
  exact lr e λq e=>(⟨(xc q▸D).r,dG e⟩)
 induction o using Mine.IZ.casesOn with
 |eq=>exact(Bj H C D e).1 g.prog g.w E Q B
 |ne=>
  refine pK e λb F I=>?_;obtain rfl:=I;exact(Bj H C D F).2 g.prog g.w E Q B
 |lt=>obtain⟨i,t,j,u,rfl,rfl,rfl⟩:=G _ e;exact P.lt_int B
 |le=>obtain⟨i,t,j,u,rfl,rfl,rfl⟩:=G _ e;exact P.le_int B
 |gt=>obtain⟨i,t,j,u,rfl,rfl,rfl⟩:=G _ e;exact P.gt_int B
 |ge=>obtain⟨i,t,j,u,rfl,rfl,rfl⟩:=G _ e;exact P.ge_int B
 |is=>obtain⟨rfl,rfl⟩:=L _ e;exact is_none (by rw[tN C];exact B)
 |b=>obtain⟨rfl,rfl⟩:=L _ e;exact isNot_none (by rw[tN C];exact B)
 |c=>exact(w6 H e C D).1 Q B
 |a=>
  refine pK e λb F I=>?_;obtain rfl:=I;exact(w6 H F C D).2 Q B
end
end Mine
namespace Mine
open PySem PySem.W PyProof.Rows PySem.Calls
def Vw.at:(Vw X W h).le (gJ h):=λz z x=>x.2.2
def yd(w):(qp w).q=some w:=by
 induction w using su<;>rfl
section
variable {S:cZ}{R:aU S}{os os':aJ}{en:List SV}{s s':Shared}{v:Value}{w:AV}
def Le.rep(l:Le R os s os' s')(r:cf S.g (R.V os s.heap) v a):cf S.g (R.V os' s'.heap) v a:=r.mono l.f.c9
def cf.at(r:cf g (Vw X W h) v a):cf g (gJ h) v a:=r.mono Vw.at
def eO.keeps(I:eO R os en s)(k:s.heap.StaysIn s'.heap):eO R os en s':=
 ⟨I.c.moved (Z:=λz=>False) nofun (λa o z=>k a o) nofun λz z=>kE λl=>And.elim λe h=>⟨l,e,h.at λo=>k _ o⟩,λi l e=>(I.oK i l e).at λo=>k _ o,I.inj,I.E⟩
def bo.keeps(I:bo R os en s)(k:s.heap.StaysIn s'.heap):bo R os en s':=⟨I.toeO.keeps k,I.tm⟩
def bo.fH(I:bo R os en s):S.g.K.In s.heap:=S.g.fH.keeps λb o e=>(I.c.base b o e).2.2
def PE(R:aU S):aJ->AV×List SV->Value->Shared->Prop:=λos b v s=>bo R os b.2 s/\cf S.g (R.V os s.heap) v b.1
def PB(R:aU S):aJ->Bool×List SV->Bool->Shared->Prop:=λos b v s=>v=b.1/\bo R os b.2 s
def Uz(R:aU S):aJ->List AV×List SV->List Value->Shared->Prop:=λos b v s=>bo R os b.2 s/\cm S.g (R.V os s.heap) v b.1
def PR(R:aU S):aJ->SV×List SV->Value->Shared->Prop:=λos b v s=>eO R os b.2 s/\ki S.g (R.V os s.heap) s.heap v b.1 (os tI)
def PR.pe(h:PR R os (sv,en) v s)(e:sv.q=some w):PE R (os.f tI []) (w,en) v s/\Le R os s (os.f tI []) s:=by
 obtain⟨I,y⟩:=h
 have A:dE (R.W os) s.heap (R.W (os.f tI [])) s.heap:=λa o n e=>⟨e,λw=>by
  rcases w with w |w |⟨j,w⟩
  ·exact n (.inl w)
  ·exact n (.inr (.inl w))
  ·exact(aJ.c w).elim nofun λq=>n (.inr (.inr ⟨j,q.2⟩))⟩
 refine⟨⟨⟨⟨I.c.r I.E (λz z e=>e) (λz z h=>h) nofun nofun .nil,I.oK,I.inj,I.E⟩,aJ.d⟩,y.q A.c9 (λa F m E=>⟨λq=>(I.c.b a q).2 (.inr (.inr ⟨_,m⟩)),λw=>?_,E⟩) e⟩,A,.d _,λz z z z z h=>h⟩;obtain⟨B,D⟩:=I.c.e _ a m;rcases w with⟨p,C,w⟩|w |⟨j,w⟩
 ·exact B p C w
 ·exact D w
 ·exact(aJ.c w).elim nofun λq=>I.c.k _ _ a q.1 q.2 m
def PE.pr(h:PE R os (w,en) v s):PR R os (.h w,en) v s:=⟨h.1.toeO,by rw[h.1.tm];exact .f (.v h.2)⟩
def PO(R:aU S):aJ->AV×List SV->Value->Shared->Prop:=λos b v s=>PR R os (qp b.1,b.2) v s
def y7.po(I:bo R os en s)(h:y7 S.g (R.V os s.heap) s w v s'):JP R os s (PO R) (w,en) v s':=by
 rcases h with⟨k,m,r,e⟩|⟨l,rfl,a,D,n,rfl,A,C,r,b,k,m⟩
 ·exact⟨os,.b k m,show PR R os (qp w,en) v s' from e▸PE.pr ⟨I.keeps k,r.mono (dE.b k).c9⟩⟩
 ·have B:dE (R.W os) s.heap (R.W (os.f tI [a])) s'.heap:=λc o n e=>⟨k c o e,λw=>by
   rcases w with w |w |⟨j,w⟩
   ·exact n (.inl w)
   ·exact n (.inr (.inl w))
   ·exact(aJ.c w).elim (λq=>bw (dN.mp q.2▸A) e) λq=>n (.inr (.inr ⟨j,q.2⟩))⟩
  refine⟨os.f tI [a],⟨B,m,λz z z z z h=>h.at λo=>k _ o⟩,⟨I.c.r I.E k (λz z=>kE λl=>And.elim λe h=>⟨l,e,h.at λo=>k _ o⟩) (iE.mpr ⟨_,C⟩) (iE.mpr (.inr A)) (List.nodup_cons.mpr ⟨nofun,.nil⟩),λi l e=>(I.oK i l e).at λo=>k _ o,I.inj,I.E⟩,?_⟩;rw[aJ.d];exact .f (.o (.aj C) (r.mono B.c9) b)
end
def SE(S:cZ)(a:IE)(e:Expr):Prop:=∀(R:aU S) {B:aJ} {A:List SV} {s:Shared},bo R B A s->J R B s (eval e R.ah) (ev S.G S.call a A) (PE R)
def SO(S:cZ)(a:IE)(e:Expr):Prop:=∀(R:aU S) {B:aJ} {A:List SV} {s:Shared},bo R B A s->J R B s (eval e R.ah) (ev S.G S.call a A) (PO R)
noncomputable def bb(r:aD (AV×List SV)):aD (Bool×List SV):=r.i λx=>(c_ x.1).i λb=>.oK (b,x.2)
def SB(S:cZ)(a:IE)(e:Expr):Prop:=∀(R:aU S) {B:aJ} {A:List SV} {s:Shared},bo R B A s->J R B s (isTrue e R.ah (eval e R.ah)) (bb (ev S.G S.call a A)) (PB R)
section
variable {S:cZ}{R:aU S}{os:aJ}{en:List SV}{s:Shared}
def J.Lu{B D:Type}{t:Sem B}{r:aD D}{P C:aJ->D->B->Shared->Prop}(h:J R os s t r P)(k:∀os' b v s',P os' b v s'->∃A,Le R os' s' A s'/\C A b v s'):J R os s t r C:=Wt.mono h (λb v s' F=>by obtain⟨os',l,p⟩:=F;exact by obtain⟨A,E,q⟩:=k os' b v s' p;exact⟨A,l.trans E,q⟩) λz z x=>x
def SO.e{a:IE}{e:Expr}(h:SO S a e):SE S a e:=λR z z z I=>(h R I).Lu λz b z z p=>by obtain⟨q,l⟩:=PR.pe p (yd b.1);exact⟨_,l,q⟩
def J.e{B A:Type}{t:Sem Value}{k:Value->Sem B}{r:aD (AV×List SV)}{f:AV×List SV->aD A}{P:aJ->A->B->Shared->Prop}(h:J R os s t r (PE R))
 (C:∀{os' v w en' s'},Le R os s os' s'->bo R os' en' s'->cf S.g (R.V os' s'.heap) v w->J R os' s' (k v) (f (w,en')) P):J R os s (t>>=k) (r.i f) P:=
 J.i h λz z z z l p=>C l p.1 p.2
def J.b{B A:Type}{t:Sem Bool}{k:Bool->Sem B}{r:aD (Bool×List SV)}{f:Bool×List SV->aD A}{P:aJ->A->B->Shared->Prop}(h:J R os s t r (PB R))
 (C:∀{os' b en' s'},Le R os s os' s'->bo R os' en' s'->J R os' s' (k b) (f (b,en')) P):J R os s (t>>=k) (r.i f) P:=
 J.i h λz b z z l p=>by obtain⟨rfl,I⟩:=p;exact C l I
def J.U(I:bo R os en s)(h:∀w,o=some w->wpAny (model S.g.prog S.g.w) R.A t (y7 S.g (R.V os s.heap) s w) (λz z=>False) s):J R os s t ((aD.d o).i λw=>.oK (w,en)) (PO R):=
 J.j cQ λw e=>wpAny_mono (h w (cM e)) (λz z q=>q.po I) λz z x=>x
def J.q(I:bo R os en s)(h:∀w,o=some w->wpAny (model S.g.prog S.g.w) R.A t (λv s'=>s.heap.StaysIn s'.heap/\fb s s'/\cf S.g (R.V os s'.heap) v w) (λz z=>False) s):J R os s t ((aD.d o).i λw=>.oK (w,en)) (PE R):=
 J.j cQ λw e=>wpAny_mono (h w (cM e)) (λz z=>And.elim λk=>And.elim λm r=>⟨os,.b k m,I.keeps k,r⟩) λz z x=>x
end
section
variable {G:jn}{call:Nat->List SV->aD (SV×List SV)}{en:List SV}{β:Type}{f:List AV×List SV->aD β}
def pX:(bu G call [a] en).i f=(ev G call a en).i λx=>f ([x.1],x.2):=by
 show((ev G call a en).i _).i _=_
 rw[aE];rfl
def Bh:(bu G call [a,b] en).i f=(ev G call a en).i λx=>(ev G call b x.2).i λy=>f ([x.1,y.1],y.2):=by
 show((ev G call a en).i λx=>(bu G call [b] x.2).i λr=>.oK (x.1::r.1,r.2)).i f=_
 rw[aE]
 congr 1;funext x
 rw[aE,pX];rfl
end
def Wr.f{os:aJ}(w:Wr O A (os.f i o) a):Wr O A os a\/a∈o:=by
 rcases w with w |w |⟨j,w⟩
 ·exact .inl (.inl w)
 ·exact .inl (.inr (.inl w))
 ·exact(aJ.c w).elim (λq=>.inr q.2) λq=>.inl (.inr (.inr ⟨j,q.2⟩))
def aJ.e{os:aJ}:os.f i (os i)=os:=funext λj=>by
 unfold aJ.f
 split
 ·exact congrArg os (Eq.symm ‹_›)
 ·rfl
set_option tactic.hygienic true in
def zA{A:Type}{l:List A}{a:A}(h:l[i]? =some a):l.set i a=l:=by
 apply List.ext_getElem?;intro j;rw[List.getElem?_set]
 split
 ·rename_i q;subst q;rw[if_pos (aS h),h]
 ·rfl
def lJ(g:Gd)(h:Heap)(v:Value)(p:mJ)(w:Value):Prop:=match p with
 |none=>w=v
 |some (k,i)=>k≠0/\kO (λA B=>dz g (gJ h) k v A B) (λA B=>A[i]? =some w) (λA B=>A.length<=dF)
section
variable {S:cZ}{R:aU S}{os:aJ}{en:List SV}{s:Shared}{x:Nat}{sv:SV}
def eO.ne(I:eO R os en s)(A:x<en.length):x≠tI:=λe=>absurd A (eH.mpr (e▸I.E))
def bo.slotAt(I:bo R os en s)(C:en[x]? =some sv)(B:sv≠.a):kO (λl v=>R.cx x=some l) (λl v=>l.holds s.heap v) (λl v=>ki S.g (R.V os s.heap) s.heap v sv (os x)):=
 eK (I.c.slot x sv C B) λv A=>aK A λE y=>eK E λl D=>aK D λe h=>⟨l,v,e,h,y⟩
inductive Nm(R:aU S)(os:aJ)(en:List SV)(s:Shared)(x:Nat)(w:AV):Prop
 |mk (l:Loc) (v:Value) (os':aJ) (hl:R.cx x=some l) (hv:l.holds s.heap v) (le:Le R os s os' s) (I:bo R os' (en.set x (.h w)) s) (r:cf S.g (R.V os' s.heap) v w)
def bo.freeze(I:bo R os en s)(B:en[x]? =some sv)(e:sv.q=some w):Nm R os en s x w:=by
 obtain⟨l,v,E,D,y⟩:=I.slotAt B (λq=>by rw[q]at e;cases e);have C:dE (R.W os) s.heap (R.W (os.f x [])) s.heap:=λa o n e=>⟨e,λw=>w.f.elim n nofun⟩
 refine⟨l,v,os.f x [],E,D,⟨C,.d _,λz z z z z h=>h⟩,(⟨⟨I.c.f (aS B) (I.ne (aS B)) (λa x=>⟨x,nofun⟩) (λa o n=>C a o λw=>n (.inl w)) (λa x=>(I.c.b a x).1) I.c.n (λa x=>(I.c.l a x).1) nofun .nil nofun (λz z z z z e=>e)
  (λz z z h=>h) ⟨l,E,D⟩ (.inr ⟨nofun,λL m f=>.f (.v (y.q m (λa o A e=>f a o A nofun e) e))⟩),I.oK,I.inj,by rw[eI];exact I.E⟩,by rw[aJ.b (Ne.symm (I.ne (aS B)))];exact I.tm⟩:bo R (os.f x []) (en.set x (.h w)) s),y.q C.c9 (λa o A e=>⟨λq=>(I.c.b a q).2 (.inr (.inr ⟨x,A⟩)),λw=>?_,e⟩) e⟩
 obtain⟨F,H⟩:=I.c.e x a A;rcases w with⟨p,G,w⟩|w |⟨j,w⟩
 ·exact F p G w
 ·exact H w
 ·rcases aJ.c w with⟨_,w⟩|⟨q,w⟩
  ·cases w
  ·exact I.c.k x j a (Ne.symm q) A w
def bo.turn(I:bo R os en s){s':Shared}{B:List Addr}(A:∀a∈B,a∈os x)(k:∀a o,a∉B->s.heap.get? a=some o->s'.heap.get? a=some o):
 dE (R.W os) s.heap (R.W os) s'.heap/\ku R s.heap s'.heap:=by
 refine⟨λa o n e=>⟨k a o (λm=>n (.inr (.inr ⟨x,A a m⟩))) e,n⟩,λi l v e h=>h.at λo=>k _ o λm=>(I.c.e x _ (A _ m)).2 ⟨i,l,e,rfl⟩⟩
def bo.upd(I:bo R os en s)(E:x<en.length){B:SV}{C:List Addr}(A:∀a∈C,a∈os x)(k:∀a o,a∉C->s.heap.get? a=some o->s'.heap.get? a=some o)
 (G:R.cx x=some l) (H:l.holds s.heap v) (D:B≠.a/\∀V',(R.V os s.heap).le V'->ki S.g V' s'.heap v B (os x)):bo R os (en.set x B) s':=by
  obtain⟨L,kp⟩:=I.turn A k;have c:=I.c.f (h':=s'.heap) (hold':=R.hold s'.heap) (X':=R.X) (sv:=B) (o':=os x) (v:=v) E (I.ne E) (λa q=>⟨q,λm=>(I.c.b a q).2 (.inr (.inr ⟨x,m⟩))⟩) (by rw[aJ.e];exact λa o n e=>L a o (λw=>n (.inl w)) e)
   (λa q=>let⟨o,e⟩:=(I.c.b a q).1;⟨o,k a o ((λa q m=>(I.c.b a q).2 (.inr (.inr ⟨x,A a m⟩)):∀a,R.X a->a∉C) a q) e⟩) (λp F=>Ns.at (I.c.n p F) λo=>k _ o λm=>(I.c.e x _ (A _ m)).1 p F rfl) (λa q=>let⟨o,e⟩:=(I.c.l a q).1;⟨o,k a o (λm=>(I.c.e x _ (A _ m)).2 q) e⟩)
   (I.c.e x) (I.c.nd x) (λj a q m=>I.c.k x j a (Ne.symm q) m) (λj a o q m=>k a o λM=>I.c.k j x a q m (A a M)) (λj w z=>kE λl=>And.elim λe h=>⟨l,e,kp j l w e h⟩) ⟨l,G,kp x l v G H⟩ (.inr ⟨D.1,λV' m z=>D.2 V' m⟩)
  rw[aJ.e]at c;exact⟨⟨c,λi l e=>(I.oK i l e).at λo=>k _ o λm=>(I.c.e x _ (A _ m)).2 ⟨i,l,e,rfl⟩,I.inj,by rw[eI];exact I.E⟩,I.tm⟩
inductive IP(R:aU S)(os:aJ)(en:List SV)(s:Shared)(x:Nat)(p:mJ)(sf:SF):Prop
 |mk (l:Loc) (v w:Value) (om:List Addr) (sv:SV) (hx:en[x]? =some sv) (hl:R.cx x=some l) (hv:l.holds s.heap v) (pv:lJ S.g s.heap v p w) (y:iG S.g (R.V os s.heap) s.heap w sf om) (hm:∀a∈om,a∈os x)
  (up:∀{s':Shared} {sf':SF},(∀a o,a∉om->s.heap.get? a=some o->s'.heap.get? a=some o)->(∀V',(R.V os s.heap).le V'->iG S.g V' s'.heap w sf' om)->bo R os (en.set x (sv.iN p sf')) s')
def bo.part(I:bo R os en s){sf:SF}(A:pQ en x p=some sf):IP R os en s x p sf:=by
 refine dg A λsv B A=>?_
 induction sv using Mine.SV.casesOn with
 |a=>cases A
 |f Yv=>
  obtain⟨l,v,D,C,y⟩:=I.slotAt B nofun
  cases y with
  |f y=>
   induction p using aF with
   |none=>cases A;exact⟨l,v,v,os x,_,B,D,C,rfl,y,λJ m=>m,λ{t G} k o=>I.upd (aS B) (λJ m=>m) k D C ⟨nofun,λL m=>.f (o L m)⟩⟩
   |some q=>cases A
 |e k n=>
  induction p using aF with
  |none=>cases A
  |some q=>
   obtain⟨l,v,D,C,y⟩:=I.slotAt B nofun;refine lr (show(if k=q.1 then n[q.2]? else none)=some sf from A) λd r=>?_;obtain rfl:=d;obtain⟨U,E⟩:∃U,os x=U:=⟨_,rfl⟩;rw[E]at y
   cases y with
   | @e _ _ vs as _ o hk sh y b=>
    refine bB λh M=>?_;obtain⟨w,o1,W,o2,Q,u,rfl,z⟩:=y.split r
    have V:∀a∈W,a∈os x:=λa m=>by rw[E];exact iI _ (iI _ (pq _ m))
    have P:=I.c.nd x;rw[E]at P;refine M (⟨l,v,w,W,_,B,D,C,⟨hk,vs,as,sh,Q,by rw[y.E];exact b⟩,u,V,λ{t G} O j=>I.upd (aS B) V O D C ⟨nofun,λL m=>?_⟩⟩);refine bB λh M=>?_;obtain⟨_,i,g⟩:=List.nodup_append.mp P;obtain⟨_,X,Z⟩:=List.nodup_append.mp i;obtain⟨_,_,Y⟩:=List.nodup_append.mp X;refine M ?_;rw[E];refine .e hk (sh.mono λa H N e=>O a H (λF=>g a N a (iI _ (pq _ F)) rfl) e) ?_ (by rw[eI];exact b);have:=z (v':=w) m (λa N H e=>O a H (λF=>(gM.mp N).elim (λq=>Z a q a (pq _ F) rfl) λq=>Y a F a q rfl) e) (j L m)
    rwa[zA Q]at this
end
def mO(h:fA x=true):(x==("__debug__" :Str))=false/\(x==("__classdict__" :Str))=false:=by
 unfold fA at h
 rwa[Bool.and_eq_true,Bool.not_eq_true',Bool.not_eq_true']at h
def dn(S:cZ)(x:Nat)(e:Expr):Prop:=kO (λn p=>e= .Name n p) (λn p=>fA n=true) (λn p=>S.dY.lookup n=some x)
def i4(S:cZ)(x:Nat)(p:mJ)(e:Expr):Prop:=match p with
 |none=>dn S x e
 |some (k,i)=>(k=1/\∃b c B A,e= .Subscript b (.Constant (.int i) c B) A/\dn S x b)\/∃c b a p,k=c+2/\e= .Attribute b a p/\dn S x b/\(S.g.fld c)[i]? =some a
noncomputable def dA(e:Expr):Bool:=e.ctorIdx !=16
def cG(h:dA o=true):attributeBase o a ah whole=whole:=by
 cases o<;>first |rfl |cases h
noncomputable def gH(e:Expr):Bool:=e.ctorIdx !=26
def eX(h:gH e=true):subscripted e false o i=operate [o,i] (getItem o i):=by
 cases e<;>first |rfl |cases h
def cf.handed(h:cf g V v a):handedIn v=true:=by
 induction a using Mine.AV.casesOn with
 |s c=>cases(show aZ g v c from h)<;>rfl
 |n k l=>
  obtain⟨A,B,s,_⟩:=h.node;cases s<;>rfl
def AJ:∀{es:List DictEntry} {A:List Str},aT (qF g) es A->A.Nodup->∀{i:Nat} {f:Str} {e:DictEntry},A[i]? =some f->es[i]? =some e->getL f es=some (some e.val):=by
 intro es A h
 induction h with
 |j=>exact λy {i f e} q=>nomatch q
 | @u e a es A h _ ih=>
  intro D i f E q C;obtain⟨⟨t,B⟩,_⟩:=h
  induction i using dU with
  |zero=>
   cases q;cases C;unfold getL;rw[List.find?_cons_of_pos (by rw[B];exact beq_self_eq_true _)]
  |succ i=>
   have:=ih (List.nodup_cons.mp D).2 q C;unfold getL at this|-
   rw[List.find?_cons_of_neg (by exact(λz=>by
    rw[B]at z
    exact(List.nodup_cons.mp D).1 (beq_iff_eq.mp z▸fk q):¬e.key.isStr f=true))]
   rw[List.any_cons,(by unfold DictEntry.refKey;rw[B]:e.refKey=false),Bool.false_or];exact this
def hU(h:b_ n i=some k):A3 (0<=i) (k=i.toNat) (k<n):=by
 unfold b_ at h;refine lr h λq h=>?_;refine lr h λA h=>?_;cases h;exact⟨q,rfl,A⟩
section
variable {S:cZ}{R:aU S}{os:aJ}{en:List SV}{s:Shared}{x:Nat}{E:Value->Shared->Prop}{e:Expr}{l:Loc}{v w:Value}
def gz(H:dn S x e)(I:R.cx x=some l)(C:l.holds s.heap v)(D:Q v s):wpAny (model S.g.prog S.g.w) R.A (eval e R.ah) Q E s:=by
 refine bB λO G=>?_;obtain⟨n,p,rfl,B,M⟩:=H;obtain⟨P,e,L⟩:=R.v _ _ M;cases I.symm.trans e;have B:=mO B;refine G (wpAny_Name ?_ B.1);rcases L with⟨k1,rfl⟩|⟨k1 |k1,c,F,rfl⟩
 ·obtain⟨m,N,e⟩:=C;exact wpAny_loadName_local R.f k1 N e D
 ·exact wpAny_loadName_cell R.f k1 F C D
 ·exact wpAny_loadName_free R.f k1 F C D B.2
def dn.dA(h:dn S x e):dA e=true:=by obtain⟨_,_,rfl,_⟩:=h;rfl
def mT(I:g.K.In s.heap){k i:Nat}(sh:dz g (gJ s.heap) k v vs as)(B:k=c+2)(U:vs[i]? =some w)(D:(g.fld c)[i]? =some a)(M:handedIn w=true)(V:Q w {s with toks:=s.toks+1}):
 wpAny (model g.prog g.w) A (getAttr v a true) Q E s:=by
 refine bB λX G=>?_;obtain⟨b,d,P,m,rfl,H,W,B,rfl,_⟩:=(B▸sh).inv2;obtain⟨en,F,rfl⟩:=di ..▸U |> Option.map_eq_some_iff.mp
 obtain⟨O,L,N⟩:=g.A c a (fk D);refine G ?_;exact get_value I (C:=g.cls c) (ox:=instObj (g.cls c) d) (od:=some (dictOf P m)) ⟨H,rfl,rfl,W⟩ (plainGet_of O).1
  (findObj_own L N rfl (AJ B ((g.g c).sublist (List.take_sublist _ _)) (by rw[List.getElem?_take,if_pos (aS F)];exact D) F)) M V
def qs(h1:s.heap.get? b=some (listOf arr n))(C:cm g V arr.toList r)(O:r.length<=dF)(H:b_ r.length i=some k)(I:r[k]? =some a):
 ∃B,cf g V B a/\∀Q:Value->Shared->Prop,Q B s->wpAny (model g.prog g.w) A (getItem (.ref b) (.int i t)) Q E s:=by
 refine bB λU D=>?_;obtain⟨N,rfl,F⟩:=hU H;obtain⟨B,G,M⟩:=C.get I
 have P:dF<2^63:=by decide
 exact D (⟨B,M,λQ L=>wpAny_getItem_list (aQ h1) N (N9 F O) (by rw[<-mH];exact G) L⟩)
def il(I:bo R os en s)(M:i4 S x p e)(G:R.cx x=some l)(D:l.holds s.heap v)(pv:lJ S.g s.heap v p w)(U:handedIn w=true)(H:∀t,Q w {s with toks:=t}):wpAny (model S.g.prog S.g.w) R.A (eval e R.ah) Q E s:=by
 induction p using aF with
 |none=>
  cases(show w=v from pv)
  exact gz M G D (H s.toks)
 |some q=>
  obtain⟨k,i⟩:=q;obtain⟨j,V,X,sh,C,b⟩:=pv;rcases M with⟨F,O,c,Y,W,rfl,B⟩|⟨c,O,a,p,F,rfl,B,P⟩
  ·refine Subscript_ (gz B G D (wpAny_Constant_int ?_));obtain⟨a,N,n,rfl,L,rfl,_⟩:=(F▸sh).b
   have Z:dF<2^63:=by decide
   exact tail_any (aQ L).typeIs slot_list_getitem.lookup (wpAny_getItem_list (aQ L) (Int.natCast_nonneg _) (N_ (aS C) b) (by rw[<-mH];exact C) (H _)) (eX rfl)
  ·exact Attribute_any_ (gz B G D (mT I.fH sh F C P U (H _))) (by rw[arm_eval_Attribute,cG B.dA])
inductive IQ(R:aU S)(os:aJ)(en:List SV)(s:Shared)(x:Nat)(p:mJ)(r:List AV):Prop
 |mk (l:Loc) (v:Value) (b:Addr) (arr:Array Value) (n:Nat) (hl:R.cx x=some l) (hv:l.holds s.heap v) (pv:lJ S.g s.heap v p (.ref b)) (q:s.heap.get? b=some (listOf arr n)) (rr:cm S.g (R.V os s.heap) arr.toList r) (bd:r.length<=dF) (lt:x<en.length)
  (up:∀{h':Heap} {t:Nat} {pZ:Array Value} {n':Nat} {r':List AV},(∀a o,a≠b->s.heap.get? a=some o->h'.get? a=some o)->h'.get? b=some (listOf pZ n')->cm S.g (R.V os s.heap) pZ.toList r'->r'.length<=dF->
   Le R os s os {s with heap:=h',toks:=t}/\ku R s.heap h'/\bo R os (iN en x p r') {s with heap:=h',toks:=t})
def bo.list(I:bo R os en s)(h:eY en x p=some r):IQ R os en s x p r:=by
 refine dg h λsf G C=>?_;obtain⟨l,v,w,X,Z,F,V,Q,pv,y,L,U⟩:=I.part G
 cases y with
 |v r=>cases C
 |o sh H b=>
  refine bB λY M=>?_;cases C;obtain⟨a,A,n,rfl,q,rfl,rfl⟩:=sh.b;refine M (⟨l,v,a,A,n,V,Q,pv,q,H,b,aS F,λ{B t u j O} k e P N=>?_⟩);have D:∀c o,c∉[a]->s.heap.get? c=some o->B.get? c=some o:=λc o m=>k c o λz=>m (dN.mpr z);obtain⟨f,kp⟩:=I.turn (s':={s with heap:=B,toks:=t}) L D;exact⟨⟨f,⟨rfl,rfl⟩,λi J=>kp i⟩,kp,by unfold iN;rw[F];exact(U (s':={s with heap:=B,toks:=t}) (sf':=.o O) D λW m=>.o (.aj e) (P.mono m) N)⟩
end
section
variable {S:cZ}{R:aU S}{os:aJ}{en:List SV}{s:Shared}
noncomputable def aU.j(R:aU S):aU S:={R with kp:=λz=>true}
def J.keep(h:J R.j os s t r P):J R os s t r (λos' b v s'=>P os' b v s'/\ku R s.heap s'.heap):=
 Wt.mono h (λz z z=>JP.a λos' l p=>⟨os',⟨l.f,l.m,λi z=>l.k i rfl⟩,p,λi=>l.k i rfl⟩) λz z x=>x
def SE.keep(h:SE S a e)(I:bo R os en s):J R os s (eval e R.ah) (ev S.G S.call a en) (λos' b v s'=>PE R os' b v s'/\ku R s.heap s'.heap):=
 J.keep (h R.j ⟨⟨I.c,I.oK,I.inj,I.E⟩,I.tm⟩ |>.mono λz z z z p=>⟨⟨⟨p.1.c,p.1.oK,p.1.inj,p.1.E⟩,p.1.tm⟩,p.2⟩)
def bo.tok(I:bo R os en s):bo R os en {s with toks:=t}:=⟨⟨I.c,I.oK,I.inj,I.E⟩,I.tm⟩
def J.truth(r:cf S.g (R.V os s.heap) v w)(h:∀b,v= .bool b->J R os s t (f b) P):J R os s t ((c_ w).i f) P:=
 J.j qB λb e=>h b (by rw[qA e]at r;exact r.u)
def PE.d(I:bo R os en s)(h:aZ S.g v c):PE R os (.s c,en) v s:=⟨I,h⟩
def SE.r:SE S (.d .r) (.Constant .none k p):=λz {z z z} I=>wpAny_Constant_none ⟨_,.d,.d I .r⟩
def SE.u:SE S (.d (.u b)) (.Constant (.bool b) k p):=λz {z z z} I=>wpAny_Constant_bool ⟨_,.d,.d I (.u b)⟩
def SE.m:SE S (.d (.m i)) (.Constant (.int i) k p):=λz {z z z} I=>wpAny_Constant_int ⟨_,.tok,.d I.tok (.m i _)⟩
def SE.j:SE S (.d (.j x)) (.Constant (.str x) k p):=λz {z z z} I=>wpAny_Constant_str ⟨_,.tok,.d I.tok (.j x _)⟩
def SB.of(h:SE S a e)(B:∀ah A,isTrue e ah A=(do let v <-A;standAt e.pos;holding [v] (truthy v))):SB S a e:=λR os en s I=>by
 rw[B];exact J.e (h R I) λl C r=>J.h (J.truth r λb e=>J.l (by subst e;exact wpAny_truthy_bool ⟨_,.d,rfl,C⟩))
def SO.bin(B:hM op f)(C:∀a b,hZ S.G o [a,b]=f a b)(M:SE S a x)(D:SE S b y):SO S (.op o [a,b]) (.BinOp x op y p):=λR os en s I=>by
 show J R os s _ ((bu S.G S.call [a,b] en).i _) _;rw[Bh];exact J.e (M R I) λz F E=>J.e (J.l (D R F)) λA N H=>J.h (J.U N λw L=>wpAny_operate' (B Vw.at ((C _ _).symm.trans L) (A.rep E) H))
def SE.l(C:SE S a x):SE S (.op .l [a]) (.UnaryOp .USub x p):=λR os en s I=>by
 show J R os s _ ((bu S.G S.call [a] en).i _) _;rw[pX];refine J.e (C R I) λz A r=>J.h (J.j cQ λw B=>J.l ?_);obtain⟨i,rfl,e⟩:=fQ (cM B);obtain⟨t,rfl⟩:=r.m;cases e;exact PySem.P.neg_int ⟨_,.tok,A.tok,aZ.m _ _⟩
def SE.not(C:SE S a x):SE S (.o [a]) (.UnaryOp .Not x p):=λR os en s I=>by
 show J R os s _ ((bu S.G S.call [a] en).i _) _;rw[pX];refine J.e (C R I) λz A r=>J.h (J.j cQ λw B=>J.l ?_);obtain⟨b,rfl,rfl⟩:=sH (cM B);rw[r.u];exact not_of (wpAny_truthy_bool ⟨_,.d,A,aZ.u _⟩)
def pj:(r.i λx=>(c_ x.1).i λb=>f (b,x.2))=(bb r).i f:=by
 unfold bb;rw[aE]
 congr 1;funext x
 rw[aE];rfl
def SB.not(B:SB S a x):SB S (.o [a]) (.UnaryOp .Not x p):=λR os en s I=>by
 rw[(by
  show((bu S.G S.call [a] en).i _).i _=_
  rw[pX,aE,<-pj]
  congr 1;funext x
  induction h:x.1 using Mine.AV.casesOn with
  |s c=>cases c<;>rfl
  |n k l=>rfl:bb (ev S.G S.call (.o [a]) en)=(bb (ev S.G S.call a en)).i λb=>.oK (!b.1,b.2))]
 exact J.b (B R I) λz A=>J.here ⟨rfl,A⟩
def SE.L(B:SB S t x)(D:SE S a y)(C:SE S b z):SE S (.L t a b) (.IfExp x y z p):=λR os en s I=>by
 show J R os s _ ((ev S.G S.call t en).i λx=>(c_ x.1).i λc=>_) _;rw[pj (f:=λc=>if c.1 then ev S.G S.call a c.2 else ev S.G S.call b c.2)]
 exact J.b (B R I) λ{q c q q} q A=>by
  induction c using aR
  ·exact C R A
  ·exact D R A
def SB.L(B:SB S t x)(D:SB S a y)(C:SB S b z):SB S (.L t a b) (.IfExp x y z p):=λR os en s I=>by
 rw[(by
  show((ev S.G S.call t en).i _).i _=_
  rw[aE,<-pj]
  congr 1;funext x
  rw[aE]
  congr 1;funext c
  induction c using aR<;>rfl:bb (ev S.G S.call (.L t a b) en)=(bb (ev S.G S.call t en)).i λc=>if c.1 then bb (ev S.G S.call a c.2)else bb (ev S.G S.call b c.2))]
 exact J.b (B R I) λ{q c q q} q A=>by
  induction c using aR
  ·exact C R A
  ·exact D R A
set_option tactic.hygienic true in
def BW:∀{es:List IE} {vs:List Expr},aT (SE S) es vs->es≠[]->∀(R:aU S) {os:aJ} {en:List SV} {s:Shared},bo R os en s->J R os s (boolOp p (if d then .And else .Or) (evalEach vs R.ah)) (bO S.G S.call d es en) (PE R):=by
 intro es vs h
 induction h with
 |j=>exact λh=>absurd rfl h
 | @u a v es vs h t C=>
  intro _ R os en s I
  cases t with
  |j=>
   refine J.post (h R I) λE b F H q=>?_;obtain⟨w,A⟩:=b
   have e:∀c,(if c=d then aD.oK (AV.u d,A)else .oK (.u c,A))=aD.oK (AV.u c,A):=λc=>by
    split
    ·rename_i q;rw[q]
    ·rfl
   show((c_ w).i λc=>if c=d then aD.oK (AV.u d,A)else .oK (.u c,A))≠.bG/\∀c,((c_ w).i λc=>if c=d then aD.oK (AV.u d,A)else .oK (.u c,A))= .oK c->_
   simp only[e]
   induction hb:c_ w using Mine.bf with
   |oK b=>exact⟨nofun,λc D=>by cases D;rw[<-qA hb];exact q⟩
   |bG=>exact absurd hb qB
   |aA=>exact⟨nofun,nofun⟩
  | @u a' F Et Ny h' t'=>
   have C:=λR os en s I=>C nofun R (os:=os) (en:=en) (s:=s) I
   induction d using aR
   ·exact J.e (h R I) λz B r=>J.h (J.truth r λb e=>by
     subst e;refine J.step (wpAny_holding (wpAny_truthy_bool ⟨.d,?_⟩))
     induction b using aR
     ·exact C R _ _ _ B
     ·exact J.here ⟨B,aZ.u _⟩)
   ·exact J.e (h R I) λz B r=>J.h (J.truth r λb e=>by
     subst e;refine J.step (wpAny_holding (wpAny_truthy_bool ⟨.d,?_⟩))
     induction b using aR
     ·exact J.here ⟨B,aZ.u _⟩
     ·exact C R _ _ _ B)
def bb_and:bb (bO S.G S.call d (a::es) en)=(bb (ev S.G S.call a en)).i λc=>if c.1=d then bb (bO S.G S.call d es c.2)else .oK c:=by
 show((ev S.G S.call a en).i _).i _=_
 rw[aE,<-pj]
 congr 1;funext x
 rw[aE]
 congr 1;funext b
 by_cases q:b=d
 ·rw[if_pos q,if_pos q];rfl
 ·rw[if_neg q,if_neg q];rfl
def Ga:∀{es:List IE} {vs:List Expr},aT (SB S) es vs->∀(R:aU S) {os:aJ} {en:List SV} {s:Shared},bo R os en s->J R os s (allTrue (if d then .And else .Or) vs R.ah) (bb (bO S.G S.call d es en)) (PB R):=by
 intro es vs h
 induction h with
 |j=>intro R os en s I;induction d using aR<;>exact J.here ⟨rfl,I⟩
 | @u a v es vs h t ih=>
  intro R os en s I;rw[bb_and]
  induction d using aR
  ·exact J.b (h R I) λ{z c z z} z A=>by
    induction c using aR
    ·exact ih R A
    ·exact J.here ⟨rfl,A⟩
  ·exact J.b (h R I) λ{z c z z} z A=>by
    induction c using aR
    ·exact J.here ⟨rfl,A⟩
    ·exact ih R A
def SE.and(h:aT (SE S) es vs)(A:es≠[]):SE S (.and es) (.BoolOp .And vs p):=λR z z z I=>BW (d:=true) h A R I
def SE.or(h:aT (SE S) es vs)(A:es≠[]):SE S (.or es) (.BoolOp .Or vs p):=λR z z z I=>BW (d:=false) h A R I
def SB.and(h:aT (SB S) es vs):SB S (.and es) (.BoolOp .And vs p):=λR z z z I=>Ga (d:=true) h R I
def SB.or(h:aT (SB S) es vs):SB S (.or es) (.BoolOp .Or vs p):=λR z z z I=>Ga (d:=false) h R I
end
section
variable {S:cZ}{R:aU S}{os:aJ}{en:List SV}{s:Shared}
def aU.room(R:aU S):R.A.units+800<=cLine:=az (az (qb (eN _ _) _) (eN _ _)) (R.ig λz=>none).units
def aU.u(R:aU S):R.A.units+60<cLine:=gZ (Nat.add_lt_add_left (by decide) _) R.room
def lD(e:d_ o w C=some r)(h:cf S.g (R.V os s.heap) v w)(h':cf S.g (R.V os s.heap) v' C)(B:Q (.bool r) s):wpAny (model S.g.prog S.g.w) R.A (compareOp (gh o) v v') Q E s:=
 Ig R.u e h.at h'.at B
def uA:∀{es:List IE} {vs:List Expr},aT (SE S) es vs->∀{A:List IZ},A.length=es.length->∀(R:aU S) {a:AV} {v:Value} {os:aJ} {en:List SV} {s:Shared},bo R os en s->cf S.g (R.V os s.heap) v a->
 J R os s (compareChain p v (A.map gh) (evalEach vs R.ah)) (gp S.G S.call a A es en) (PE R)/\J R os s (testChain p v (A.map gh) (evalEach vs R.ah)) (bb (gp S.G S.call a A es en)) (PB R):=by
 intro es vs h
 induction h with
 |j=>exact λz R a v os en s I r=>⟨trivial,trivial⟩
 | @u e w es vs h t E=>
  intro A F R a v os en s I r
  induction A using cF with
  |nil=>cases F
  |cons o A=>
   cases t with
   |j=>
    induction A using cF with
    |cons _ _ =>cases F
    |nil=>
     constructor
     ·exact J.e (J.l (h R I)) λl C B=>J.h (J.j cQ λc D=>wpAny_operate' (lD (cM D) (l.rep r) B ⟨_,.d,C,aZ.u _⟩))
     ·rw[(by
       show((ev S.G S.call e en).i λx=>(aD.d (d_ o a x.1)).i λr=>.oK (AV.u r,x.2)).i _=_
       rw[aE];congr 1;funext x;rw[aE];rfl:bb (gp S.G S.call a [o] [e] en)=(ev S.G S.call e en).i λx=>(aD.d (d_ o a x.1)).i λr=>.oK (r,x.2))]
      exact J.e (J.l (h R I)) λl C B=>J.h (J.j cQ λc D=>J.step (wpAny_operate' (lD (cM D) (l.rep r) B ⟨.d,(wpAny_holding (wpAny_truthy_bool ⟨_,.d,rfl,C⟩))⟩)))
   | @u e' w' Et Ny h' t'=>
    induction A using cF with
    |nil=>cases F
    |cons H A=>
     have E:=λR a v os en s I r=>E (Nat.succ.inj F) R (a:=a) (v:=v) (os:=os) (en:=en) (s:=s) I r
     constructor
     ·refine J.e (J.l (h R I)) λl C B=>J.h (J.j cQ λc D=>J.step (wpAny_holding (lD (cM D) (l.rep r) B ⟨.d,J.step (wpAny_release' ⟨.d,J.step (wpAny_holding (wpAny_truthy_bool ⟨.d,?_⟩))⟩)⟩)))
      induction c using aR
      ·exact J.here ⟨C,aZ.u _⟩
      ·exact(E R _ _ _ _ _ C B).1
     ·rw[(by
       show((ev S.G S.call e en).i λx=>(aD.d (d_ o a x.1)).i λr=>if r then gp S.G S.call x.1 (H::A) (e'::Et) x.2 else .oK (AV.u false,x.2)).i _=_
       rw[aE];congr 1;funext x;rw[aE];congr 1;funext r;induction r using aR<;>rfl:bb (gp S.G S.call a (o::H::A) (e::e'::Et) en)=(ev S.G S.call e en).i λx=>(aD.d (d_ o a x.1)).i λr=>if r then bb (gp S.G S.call x.1 (H::A) (e'::Et) x.2)else .oK (false,x.2))]
      refine J.e (J.l (h R I)) λl C B=>J.h (J.j cQ λc D=>J.step (wpAny_holding (lD (cM D) (l.rep r) B ⟨.d,J.step (wpAny_release' ⟨.d,J.step (wpAny_holding (wpAny_truthy_bool ⟨.d,?_⟩))⟩)⟩)))
      induction c using aR
      ·exact J.here ⟨rfl,C⟩
      ·exact(E R _ _ _ _ _ C B).2
def SE.I(E:SE S a x)(h:aT (SE S) es vs)(D:cs.length=es.length)(A:lastMarks (cs.map gh) vs=false):SE S (.I a cs es) (.Compare x (cs.map gh) vs p):=λR os en s I=>by
 show J R os s (eval x R.ah>>=λv=>compareChain p v (cs.map gh) (markedEach (cs.map gh) vs (evalEach vs R.ah))) _ _;rw[markedEach_of_false _ _ _ A];exact J.e (E R I) λz C B=>(uA h D R C B).1
def SB.I(E:SE S a x)(h:aT (SE S) es vs)(D:cs.length=es.length)(A:lastMarks (cs.map gh) vs=false):SB S (.I a cs es) (.Compare x (cs.map gh) vs p):=λR os en s I=>by
 show J R os s (eval x R.ah>>=λv=>testChain p v (cs.map gh) (markedEach (cs.map gh) vs (evalEach vs R.ah))) (bb ((ev S.G S.call a en).i λx=>gp S.G S.call x.1 cs es x.2)) _;rw[markedEach_of_false _ _ _ A];unfold bb;rw[aE];exact J.e (E R I) λz C B=>(uA h D R C B).2
def SE.H(F:i4 S x p e):SE S (.H x p) e:=λR os en s I=>by
 induction p using aF with
 |none=>
  show J R os s _ (aD.d ((en[x]?).bind λs=>s.q.map λv=>(v,en.set x (.h v)))) _
  induction E:en[x]? using aF with
  |none=>trivial
  |some D=>
   show J R os s _ (aD.d (D.q.map λv=>(v,en.set x (.h v)))) _
   induction hw:D.q using aF with
   |none=>trivial
   |some w=>
    obtain⟨l,v,B,C,A,G,H,r⟩:=I.freeze E hw;exact gz F C A ⟨B,G,H,r⟩
 |some q=>
  show J R os s _ (aD.d (match pQ en x (some q)with |some (.v a)=>some (a,en)|_ =>Option.none)) _
  induction h:pQ en x (some q)using aF with
  |none=>trivial
  |some sf=>
   induction sf using Mine.SF.casesOn with
   |o r=>trivial
   |v a=>
    obtain⟨l,v,w,L,D,E,C,A,pv,y,M,N⟩:=I.part h
    cases y with
    |v r=>exact il I F C A pv r.handed λt=>⟨os,.tok,I.tok,r⟩
def SE.A(U:SE S a x)(E:k=c+2)(F:(S.g.fld c)[i]? =some nm)(H:dA x=true):SE S (.op (.A k i) [a]) (.Attribute x nm p):=λR os en s I=>by
 show J R os s (attributeBase x nm R.ah (eval x R.ah)>>=λo=>standAt p.atName>>=λz=>holding [o] (getAttr o nm true)>>=λr=>letTemporaryGo x o r>>=λz=>pure r) ((bu S.G S.call [a] en).i _) _;rw[cG H,pX];refine J.e (U R I) λz B L=>J.h (J.q B λw Q=>?_);refine bB λY C=>?_;refine dg (show((dT _).bind λq=>if q.1=k then q.2[i]? else Option.none)=some w from Q) λA D N=>?_;obtain⟨X,l⟩:=A;refine lr N λA O=>?_;obtain rfl:=A;cases eQ D;obtain⟨V,W,sh,M,b⟩:=L.node;obtain⟨P,e4,r⟩:=M.get O;exact C (wpAny_bind (wpAny_holding (mT B.fH (sh.mono λz z z=>Vw.at _ _) E e4 F r.handed (wpAny_bind (wpAny_letTemporaryGo (wpAny_pure ⟨dR _,⟨rfl,rfl⟩,r⟩))))))
def D3(D:V.le (gJ s.heap))(N:cf g V val v)(X:cf g V i j)(y:LZ v j=some w):
 (∃T Z,s.TypeIs val T/\typeLookup (.type T) "__getitem__" =pure (some (.builtin Z)))/\∃r,cf g V r w/\∀Q:Value->Shared->Prop,Q r s->wpAny (model g.prog g.w) A (getItem val i) Q E s:=by
 refine bB λp P=>?_;refine dg y λo U Y=>?_;obtain⟨k,l⟩:=o;refine lr Y λW u=>?_;cases eQ U;obtain⟨n,rfl,e4⟩:=fQ u;obtain⟨t,rfl⟩:=X.m;refine dg e4 λm O M=>?_
 have d:dF<2^63:=by decide
 refine P ?_;rcases lV W with rfl |rfl
 ·obtain⟨a,B,c,rfl,C,G,I⟩:=N.tup;obtain⟨F,rfl,H⟩:=hU O;obtain⟨r,q,L⟩:=G.get M;have H:n.toNat<l.length:=H
  exact⟨⟨_,_,(bY (D _ _ C)).typeIs,slot_tuple_getitem.lookup⟩,r,L,λQ z=>getItem_tuple (bY (D _ _ C)) (N7 F) (N9 H I) (j:=n.toNat) (by
   unfold seqIndex?
   simp[(Int.not_lt.mpr F:¬n<0),F,(R4 F H (bX G):n<(B.size:Int))]) (by rw[<-mH];exact q) z⟩
 ·obtain⟨a,B,c,rfl,C,G,I⟩:=N.aj;obtain⟨r,L,h⟩:=qs (g:=g) (A:=A) (E:=E) (t:=t) (D _ _ C) G I O M;exact⟨⟨_,_,(aQ (D _ _ C)).typeIs,slot_list_getitem.lookup⟩,r,L,h⟩
def SE.Q(U:SE S a x)(D:SE S b y)(hs:gH y=true):SE S (.x [a,b]) (.Subscript x y p):=λR os en s I=>by
 show J R os s (eval x R.ah>>=λo=>holding [o] (eval y R.ah)>>=λi=>standAt p>>=λz=>subscriptTail x y o i) ((bu S.G S.call [a,b] en).i _) _;rw[Bh];refine J.e (U R I) λz H F=>J.e (J.l (D R H)) λC Q O=>J.h (J.q Q λw P=>?_);refine bB λW B=>?_;obtain⟨⟨T,V,M,N⟩,r,L,h⟩:=D3 (A:=R.A) (E:=λz z=>False) Vw.at (C.rep F) O P;exact B (tail_any M N (h _ ⟨dR _,.d _,L⟩) (eX hs))
end
section
variable {S:cZ}{R:aU S}{os:aJ}{en:List SV}{s:Shared}
inductive fV(R:aU S)(h:Heap)(x:Nat)(p:mJ)(w:Value):Prop
 |mk (l:Loc) (v:Value) (hl:R.cx x=some l) (hv:l.holds h v) (pv:lJ S.g h v p w)
def dz.inj(x:dz g (gJ h) k v vs as)(y:dz g (gJ h) k v F I):vs=F:=by
 have q:∀{a:Addr} {o D:Obj},h.get? a=some o->h.get? a=some D->o=D:=λe A=>dG (e.symm.trans A)
 match k,x,y with
 |0,x,y=>
  obtain⟨a,C,n,rfl,e,rfl,_⟩:=x.f;obtain⟨_,_,_,B,A,rfl,_⟩:=y.f;cases B;cases q e A;rfl
 |1,x,y=>
  obtain⟨a,C,n,rfl,e,rfl,_⟩:=x.b;obtain⟨_,_,_,B,A,rfl,_⟩:=y.b;cases B;cases q e A;rfl
 |c+2,x,y=>
  obtain⟨a,d,H,n,rfl,e,G,_,rfl,_⟩:=x.inv2;obtain⟨_,_,_,_,B,A,E,_,rfl,_⟩:=y.inv2;cases B;cases q e A;cases q G E;rfl
def fV.inj(a:fV R h x p w)(b:fV R h x p B):B=w:=by
 obtain⟨l,v,D,C,pv⟩:=a;obtain⟨M,N,E,F,A⟩:=b;cases D.symm.trans E;cases C.inj F
 induction p using aF with
 |none=>exact(show B=v from A).trans (show w=v from pv).symm
 |some q=>
  obtain⟨_,I,_,sh,e,_⟩:=pv;obtain⟨_,L,_,G,H,_⟩:=A;rw[sh.inj G]at e;exact dG (H.symm.trans e)
def jP(S:cZ)(p:mJ)(a:IE)(y:Expr):Prop:=∀(R:aU S) {os:aJ} {en:List SV} {s:Shared},bo R os en s->
 J R os s (eval y R.ah) (ev S.G S.call a en) (λA c v B=>PE R A c v B/\∀{x w C},fV R s.heap x p w->fV R B.heap x p C->C=w)
def jP.of(h:SE S a y):jP S none a y:=λR z z s I=>(h.keep I).mono λz z z D C=>aK C λp k=>⟨p,λ{x w E} a b=>by
 obtain⟨l,v,A,B,pv⟩:=a
 exact fV.inj (R:=R) (h:=D.heap) (p:=none) ⟨l,v,A,k x l v A B,pv⟩ b⟩
def jP.const:jP S p (.d (.m i)) (.Constant (.int i) k q):=λz {z z z} I=>wpAny_Constant_int ⟨_,.tok,.d I.tok (.m i _),λa b=>a.inj b⟩
def jP.name(F:dn S y e):jP S p (.H y none) e:=λR os en s I=>by
 show J R os s _ (aD.d ((en[y]?).bind λs=>s.q.map λv=>(v,en.set y (.h v)))) _
 induction hx:en[y]? using aF with
 |none=>trivial
 |some B=>
  show J R os s _ (aD.d (B.q.map λv=>(v,en.set y (.h v)))) _
  induction hw:B.q using aF with
  |none=>trivial
  |some w=>
   obtain⟨l,v,A,C,D,E,G,r⟩:=I.freeze hx hw;exact gz F C D ⟨A,E,⟨G,r⟩,λa b=>a.inj b⟩
def SE.at(Y:i4 S x p pe)(C:jP S p a y)(hs:gH y=true):SE S (.at x p a) (.Subscript pe y q):=λR os en s I=>by
 show J R os s (eval pe R.ah>>=λo=>holding [o] (eval y R.ah)>>=λi=>standAt q>>=λK=>subscriptTail pe y o i) _ _;refine J.j cQ λr0 h=>?_;obtain⟨l,v,b,M,n,G,D,pv,_,_,_,_,_⟩:=I.list (cM h);refine J.step (il I Y G D pv rfl λt=>⟨.tok,?_⟩);refine J.i (J.l (C R I.tok)) λQ c vi s' le Z=>aK Z λW O=>aK W λH r=>J.h (J.j tR λi C=>J.j cQ λr1 d=>J.q H λw B=>?_);rw[tQ C]at r;refine bB λP0 L=>?_;obtain⟨t,rfl⟩:=r.m;obtain⟨U,V,e,pZ,n',j,P,u,F,X,m,_,_⟩:=H.list (cM d);cases O ⟨l,v,G,D,pv⟩ ⟨U,V,j,P,u⟩;refine dg B λk N B=>?_;obtain⟨z,r,f⟩:=qs (g:=S.g) (A:=R.A) (E:=λK K=>False) (t:=t) F X m N B;exact L (tail_any (aQ F).typeIs slot_list_getitem.lookup (f _ ⟨dR _,.d _,r⟩) (eX hs))
noncomputable def bV(e:Expr):Bool:=e.ctorIdx !=22
def aM(h:bV e=true):starEach (e::r) ah=(false,eval e ah)::starEach r ah:=by
 cases e<;>first |rfl |cases h
def SA(S:cZ)(a:IE)(e:Expr):Prop:=SE S a e/\bV e=true
def iY:∀{es:List IE} {vs:List Expr},aT (SA S) es vs->∀(R:aU S) {os:aJ} {en:List SV} {s:Shared},bo R os en s->
 J R os s (spliced (backTo p (starEach vs R.ah))) (bu S.G S.call es en) (λos b v s=>Uz R os b v s/\b.1.length=es.length):=by
 intro es vs h
 induction h with
 |j=>exact λR os en s I=>J.here ⟨⟨I,.j⟩,rfl⟩
 | @u a v es vs h t ih=>
  intro R os en s I;rw[aM h.2];show J R os s (eval v R.ah>>=λv=>(pure [v]:Sem (List Value))>>=λA=>holding A (spliced (backTo p (starEach vs R.ah)))>>=λr=>pure (A++r)) _ _;exact J.e (h.1 R I) λz D C=>J.step (wpAny_pure ⟨.d,J.i (J.l (ih R D)) λz b z z B F=>aK F λE n=>aK E λL H=>J.here ⟨⟨L,.u (B.rep C) H⟩,congrArg Nat.succ n⟩⟩)
def gL(h:aT (SA S) es vs):(backTo p (starEach vs ah)).any (·.1)=false/\(vs=[]\/∃e r,vs=e::r/\bV e=true):=by
 induction h with
 |j=>exact⟨rfl,.inl rfl⟩
 | @u a v es vs h _ ih=>exact⟨by rw[aM h.2];exact ih.1,.inr ⟨v,vs,rfl,h.2⟩⟩
def d5(F:vs=[]\/∃e r,vs=e::r/\bV e=true)
 (h:wpAny (model S.g.prog S.g.w) A (spliced (backTo p (starEach vs ah))) (λvs s'=>Q ⟨vs,[]⟩ s') E s):wpAny (model S.g.prog S.g.w) A (evalArgs f true (backTo p (starEach vs ah)) []) Q E s:=by
 rcases F with rfl |⟨e,r,rfl,D⟩
 ·exact λB p C=>PySem.evalArgs_none (h B p C) B p C
 ·rw[aM D]at h|-;exact evalArgs_plain h
structure dX(S:cZ)(nm:Str)(v:Value):Prop where
 b:S.sc.names.lookup nm=some .globalImplicit
 plain:fA nm=true
 h:nsIn S.g.K mainGlobals nm=some (some v)\/(nsIn S.g.K mainGlobals nm=some none/\bootBuiltins nm=some v/\nm≠"__name__")
def sE(I:bo R os en s)(D:dX S nm v)(G:Q v s):wpAny (model S.g.prog S.g.w) A (eval (.Name nm np) R.ah) Q E s:=by
 have k:S.g.base.StaysIn s.heap:=λb o e=>(I.c.base b o e).2.2;obtain⟨C,B⟩:=S.g.mg;obtain⟨F,L,N⟩:=S.g.mb;refine Name_function_global R.f (R.gl nm _ D.b nofun) ?_ (mO D.plain).1;rcases D.h with e |⟨e,H,M⟩
 ·exact loadGlobal_global (mg:=C) (R.glob▸B.keeps k) (mg_of S.g.fH B e) G
 ·exact loadGlobal_builtin (mg:=C) (mb:=F) (R.glob▸B.keeps k) (mg_none_of S.g.fH B e) (R.blt▸L.keeps k) ((N nm M).trans H) G
def dZ(I:bo R os en s)(B:dX S nm v)(C:Q v s):wpAny (model S.g.prog S.g.w) R.A (eval (.Name nm np) R.ah) Q E s:=sE I B C
def SE.M(B:dX S nm v)(A:S.G.M[i]? =some a)(C:cf S.g (gJ S.g.base) v a):SE S (.M i) (.Name nm np):=λR os en s I=>by
 show J R os s _ ((aD.d S.G.M[i]?).i _) _;rw[A];exact dZ I B ⟨os,.d,I,C.mono I.c.base⟩
def I0(v:Value):Prop:=(∃A,v= .builtin A)\/∃T,v= .type T
def Im(D:I0 bv)(E:dX S nm bv)(B:aT (SA S) es vs)(I:bo R os en s)
 (C:∀{os' vals ws en' s'},bo R os' en' s'->cm S.g (R.V os' s'.heap) vals ws->ws.length=es.length->J R os' s' (PySem.call bv vals []) (f (ws,en')) P):J R os s (eval (.Call (.Name nm np) vs [] p) R.ah) ((bu S.G S.call es en).i f) P:=by
 show J R os s (eval (.Name nm np) R.ah>>=λf=>callWith p f [] (backTo p (starEach vs R.ah)) []) _ _;refine J.step (dZ I E ⟨.d,?_⟩);have A:=gL (p:=p) (ah:=R.ah) B;rcases D with⟨F,rfl⟩|⟨T,rfl⟩
 ·exact J.seq (λz z h=>callWith_builtin A.1 (d5 A.2 h)) (iY B R I) λz b z z z=>And.elim λp n=>C p.1 p.2 n
 ·exact J.seq (λz z h=>PySem.callWith_type A.1 (d5 A.2 h)) (iY B R I) λz b z z z=>And.elim λp n=>C p.1 p.2 n
end
end Mine
namespace Mine
open PySem PySem.W PyProof.Rows PySem.Calls PySem.SeqAt
def sg(bv:Value)(f:AV->Option AV):Prop:=∀{g:Gd} {V:cR} {s:Shared} {A:Around} {w a:AV} {v:Value},A.units+800<=cLine->A.handled=none->A.guards=some []->V.le (gJ s.heap)->f a=some w->cf g V v a->
 wpAny (model g.prog g.w) A (PySem.call bv [v] []) (y7 g V s w) (λz z=>False) s
def IA:sg (.builtin "len") LI:=λ{g V s A w a v} z z z D e r=>by
 have E:dF<2^63:=by decide
 induction a using Mine.AV.casesOn with
 |s c=>
  cases(show aZ g v c from r)with
  |j x t=>
   obtain⟨q,e⟩:=fK (show(if x.length<1000 then some (AV.m x.length)else none)=some w from e);cases e;exact PyProof.Rows.len_str (zG q) (.ir (aZ.m _ _))
  |_ =>cases e
 |n k l=>
  obtain⟨q,e⟩:=fK (show(if k<2 then some (AV.m l.length)else none)=some w from e);cases e;rcases lV q with rfl |rfl
  ·obtain⟨a,B,n,rfl,h,C,b⟩:=r.tup;rw[<-bX C]at b|-;exact PyProof.Rows.len_tuple (bY (D _ _ h)) (zB b) (.ir (aZ.m _ _))
  ·obtain⟨a,B,n,rfl,h,C,b⟩:=r.aj;rw[<-bX C]at b|-;exact call_len_list (aQ (D _ _ h)) (zB b) (.ir (aZ.m _ _))
def IB:sg (.type "int") (Nz λb=>.m (if b then 1 else 0)):=λz z z z e r=>by
 obtain⟨b,rfl,rfl⟩:=sH e;cases r.u;exact call_int_bool (.ir (aZ.m _ _))
def IC:sg (.builtin "abs") (Cj λi=>some (.m i.natAbs)):=λz z z z e r=>by
 obtain⟨i,rfl,e⟩:=fQ e;obtain⟨t,rfl⟩:=r.m;cases e;refine call_abs_int λu A=>?_;rw[UM];exact .ir (aZ.m _ _)
def EY:sg (.type "list") (I_ λl=>some (.aj l)):=λ{g V s A w a v} z z z H e r=>by
 obtain⟨l,rfl,e⟩:=nQ e;obtain⟨b,B,n,rfl,h,C,D⟩:=r.aj;cases e;exact call_list_seq b (.inl rfl) (H _ _ h) rfl rfl (λI G F E=>.inr ⟨l,rfl,_,B,G,rfl,bJ,E,C,D,F,rfl,rfl⟩) (by rw[bX C];exact D)
def Iy:sg (.type "str") (λa=>match a with |.s (.j s)=>some (.j s)|.s (.m i)=>if i.natAbs<10^30 then some (.j (Str.ofString (toString i)))else none |_ =>none):=λ{g V s A w a v} z z z B e r=>by
 induction a using Mine.AV.casesOn with
 |s c=>
  cases(show aZ g v c from r)with
  |j x t=>cases e;exact PySem.P.str_of_str (.ir (t:=s.toks) (aZ.j _ _))
  |m i t=>
   refine lr (show(if i.natAbs<10^30 then some (AV.j (Str.ofString (toString i)))else none)=some w from e) λq e=>?_;cases e;exact PySem.P.str_of_int (gZ (log2_lt (Nat.lt_trans q (show 10^30<2^120 by decide)) (by decide)) (by decide)) (.ir (aZ.j _ _))
  |_ =>cases e
 |n k l=>cases e
def Du(B:Reads h v d as){P:Value->PyData->Prop}(D:∀b,v= .ref b->P v d)(E:P .none .none)(A:∀b,P (.bool b) (.bool b))(C:∀i t,P (.int i t) (.int i))(hs:∀x t,P (.str x t) (.str x)):P v d:=by
 cases B with
 |none=>exact E
 |bool b=>exact A b
 |int i t=>exact C i t
 |str x t=>exact hs x t
 |_ =>exact D _ rfl
def EX:sg (.builtin "repr") wY:=λ{g V s A w a v} O z S L e r=>by
 refine dg e λd F M=>?_;refine lr M λU Q=>?_;obtain⟨C,W,G⟩:=U;cases Q;obtain⟨I,E,N⟩:=fF a (r.mono L) F;have B:d.shown.length<=sizeLine:=az G (by decide)
 have R:d.hasDict=true->sysModules∉I:=λh=>by rw[PyData.hasDict_of_canLay d N]at h;cases h
 have D:∀b,v= .ref b->wpAny (model g.prog g.w) A (PySem.call (.builtin "repr") [v] []) (y7 g V s (.j d.shown)) (λz z=>False) s:=λb H=>by
  subst H;exact repr_of_reads' E C R S (UB O W) (λz z e=>e) (λX u Y k=>.inl ⟨k,⟨rfl,rfl⟩,aZ.j _ _,rfl⟩) B
 refine Du E (P:=λv d=>d.showable=true->d.shown.length<=sizeLine->wpAny (model g.prog g.w) A (PySem.call (.builtin "repr") [v] []) (y7 g V s (.j d.shown)) (λz z=>False) s) (λb e z z=>D b e) (λz z=>PySem.P.repr_of_none (.ir (aZ.j _ _))) (λb z z=>PySem.P.repr_of_bool (by induction b using aR<;>exact .ir (aZ.j _ _))) (λi t C z=>PySem.P.repr_of_int (of_decide_eq_true C) (.ir (aZ.j _ _))) (λx t z B=>PySem.P.repr_of_str (.ir (aZ.j _ _)) B) C B
def yO:∀{l:List AV} {ns:List Int} {vs:List Value},uQ l=some ns->cm g V vs l->ns.length=vs.length/\∀(i:Nat) v,vs[i]? =some v->∃t,v= .int (ns.getD i 0) t:=by
 intro l
 induction l with
 |nil=>intro ns vs e r;cases e;cases r;exact⟨rfl,λi v h=>nomatch h⟩
 |cons a l E=>
  intro ns vs e r;refine dg (show((FP a).bind λx=>(uQ l).map λr=>x::r)=some ns from e) λx B G=>?_;refine pK G λH D C=>?_;obtain rfl:=C
  cases r with
  |u h t=>
   obtain⟨n,F⟩:=E D t;refine⟨congrArg Nat.succ n,λi v A=>?_⟩
   induction i using dU with
   |zero=>cases A;exact(jE B▸h).m
   |succ i=>exact F i v A
def Iz:sg (.builtin "min") (I_ Lz):=λ{g V s A w a v} p O J S e r=>by
 obtain⟨l,rfl,e⟩:=nQ e;obtain⟨b,C,n,rfl,h,U,d⟩:=r.aj;refine dg (show((uQ l).bind λB=>if B=[]then none else some (AV.m (Ho B)))=some w from e) λB I F=>?_
 by_cases q:B=[]
 ·rw[if_pos q]at F;cases F
 ·rw[if_neg q]at F;cases F;obtain⟨X,G⟩:=yO I U;have D:=S _ _ h
  have H:B.length=C.size:=by rw[X,mF]
  refine call_min_walk (wpAny_pyIter_list (aQ D) ⟨s.heap.objs.size,[s.heap.objs.size,b],[s.heap.objs.size],C.size,_,_,λi j=>decide (B.getD i 0<B.getD j 0),rfl,Walks.list (A:=A.in1) O _ _ (λe=>bw (e▸bJ) D:b≠s.heap.objs.size) C,
   ⟨⟨_,ib _ rfl,rfl,rfl⟩,aQ (aI _ _ D)⟩,λc M=>?_,H▸Nat.pos_of_ne_zero (λe=>q (List.length_eq_zero_iff.mp e):B.length≠0),λi j R W s Q E Y L Z=>?_,λv y z N k=>.inl ⟨λc o e=>k c o (λm=>bw (dN.mp m▸bJ) e) (aI _ _ e),⟨rfl,rfl⟩,?_,rfl⟩⟩)
  ·rw[Heap.size_push];rcases iZ.mp M with q |q
   ·rw[q];exact lH _
   ·rw[dN.mp q];exact Nat.lt_succ_of_lt (Heap.lt_size D)
  ·obtain⟨t,rfl⟩:=G i R (by rw[mH];exact Y);obtain⟨u,rfl⟩:=G j W (by rw[mH];exact L);exact P.lt_int (A:=A.in1) Z
  ·obtain⟨t,rfl⟩:=G _ v (by rw[mH];exact N);rw[<-H];exact aZ.m _ t
def rep1(r:cm g V vals ws)(n:ws.length=1):kO (λv w=>vals=[v]) (λv w=>ws=[w]) (λv w=>cf g V v w):=by
 cases r with
 |j=>cases n
 |u h t=>
  cases t with
  |j=>exact⟨_,_,rfl,rfl,h⟩
  |u _ _ =>cases n
section
variable {S:cZ}{R:aU S}{os:aJ}{en:List SV}{s:Shared}
def aU.r(R:aU S):R.A.handled=none:=(R.ig λz=>Option.none).r
def aU.guards(R:aU S):R.A.guards=some []:=(R.ig λz=>Option.none).guards
def SO.b1(h1:sg bv f)(C:∀a,hZ S.G o [a]=f a)(B:I0 bv)(D:dX S nm bv)(N:SA S a x):SO S (.op o [a]) (.Call (.Name nm np) [x] [] p):=λR os en s I=>
 Im B D (.u N .j) I (f:=λb=>(aD.d (hZ S.G o b.1)).i λw=>.oK (w,b.2)) λ{E A O F P} L r n=>by
  obtain⟨v,w,rfl,rfl,H⟩:=rep1 r n;exact J.U L λw M=>h1 R.room R.r R.guards Vw.at ((C _).symm.trans M) H
def SE.O(G:i4 S x p pe)(D:dX S nm (.builtin "len"))(H:bV pe=true):SE S (.O x p) (.Call (.Name nm np) [pe] [] q):=λR os en s I=>by
 show J R os s (eval (.Name nm np) R.ah>>=λf=>callWith q f [] (backTo q (starEach [pe] R.ah)) []) _ _;refine J.j cQ λM L=>?_;obtain⟨l,v,b,B,n,F,C,pv,q,E,A,_,_⟩:=I.list (cM L);rw[aM H];refine wpAny_bind (dZ I D (callWith_builtin rfl (evalArgs_plain (spliced_cons (il I G F C pv rfl λt=>spliced_nil ?_)))));rw[<-bX E]at A|-
 have N:dF<2^63:=by decide
 exact call_len_list (aQ q) (zB A) ⟨_,.tok,I.tok,aZ.m _ _⟩
def uV(g:Gd)(k:Nat)(B:Value):Prop:=∀{V:cR} {s:Shared} {A:Around} {a w:AV} {v:Value} {Q:Value->Shared->Prop},V.le (gJ s.heap)->(gJ g.base).le V->D4 k a=some w->cf g V v a->(∀b t,w= .u b->Q (.bool b) {s with toks:=t})->
 wpAny (model g.prog g.w) A (PySem.call (.builtin "isinstance") [v,B] []) Q (λz z=>False) s
def SE.h(M:uV S.g k E)(H:SA S a x)(N:dX S nm (.builtin "isinstance"))(O:dX S C E):SE S (.op (.h k) [a]) (.Call (.Name nm np) [x,.Name C tp] [] p):=λR os en s I=>by
 show J R os s (eval (.Name nm np) R.ah>>=λf=>callWith p f [] (backTo p (starEach [x,.Name C tp] R.ah)) []) ((bu S.G S.call [a] en).i _) _;refine J.step (dZ I N ⟨.d,?_⟩);rw[aM H.2,pX];refine J.seq (t:=spliced (backTo p ((false,eval x R.ah)::starEach [.Name C tp] R.ah))) (k:=λL=>PySem.call (.builtin "isinstance") ([]++L) []) (P:=λos b A D=> ∃v,A=[v,E]/\PE R os b v D)
  (λz z h=>callWith_builtin rfl (evalArgs_plain h)) ?_ λB b A D l=>kE λv=>And.elim λe=>And.elim λF r=>?_
 ·refine J.i (f:=.oK) (H.1 R I) (λB b v D l p=>?_) |> Eq.mp (by congr 1;cases ev S.G S.call a en<;>rfl)
  exact wpAny_bind (wpAny_pure (wpAny_bind (wpAny_holding (spliced_cons (dZ p.1 O (spliced_nil (wpAny_pure ⟨B,.d,v,rfl,p⟩)))))))
 ·subst e;exact J.j cQ λw Q=>M Vw.at F.c.base (cM Q) r λb t e=>(e▸⟨B,.tok,F.tok,aZ.u _⟩)
def SO.aj(L:aT (SA S) es vs)(C:es.length<=1000):SO S (.op .aj es) (.List vs p):=λR os en s I=>by
 show J R os s (standAt p>>=λz=>spliced (backTo p (starEach vs R.ah))>>=λD=>newList D) ((bu S.G S.call es en).i _) _;refine J.h (J.i (iY L R I) λA b B E l H=>aK H λF n=>aK F λM r=>J.U M λw N=>?_)
 cases(show some (AV.aj b.1)=some w from N)
 have e:=r.E;exact wpAny_newList (.push (V:=R.V A E.heap) r (az (zE C n) (show 1000<=dF by decide))) (az (zE (zE C n) e) (show 1000<=sizeLine by decide))
def SE.tup(E:aT (SA S) es vs)(B:es.length<=1000):SE S (.op .tup es) (.Tuple vs k p):=λR os en s I=>by
 show J R os s (standAt p>>=λz=>spliced (backTo p (starEach vs R.ah))>>=λD=>newTuple D) ((bu S.G S.call es en).i _) _;refine J.h (J.i (iY E R I) λF b A M l ⟨⟨C,r⟩,n⟩=>J.q C λw H=>?_)
 cases(show some (AV.tup b.1)=some w from H)
 have L:(1000:Nat)<=dF:=by decide
 exact wpAny_newTuple ⟨aI,⟨rfl,rfl⟩,.d (C.c.new bJ (ib _ rfl)) (r.mono (dE.b aI).c9) (zT (zE B n) rfl)⟩ (az (zE (zE B n) (r.E)) (show 1000<=sizeLine by decide))
end
structure iF(g:Gd)(d:Addr)(T:List (Str×AV)):Prop where
 ns:(d==sysModules)=false
 oK:∃Cq,g.base.DictOf (strKind g.prog g.w) d Cq/\aT (λ(p:Str×Value) q=>p.1=q.1/\cf g (gJ g.base) p.2 q.2) Cq T
def zq:∀{A:List (Str×Value)} {T:List (Str×AV)} (_:aT (λ(p:Str×Value) q=>p.1=q.1/\cf g V p.2 q.2) A T) (x:Str),
 (ft T x=none/\valueAt A x=none)\/∃a v,ft T x=some a/\valueAt A x=some v/\cf g V v a:=by
 intro A T h x
 induction h with
 |j=>exact .inl ⟨rfl,rfl⟩
 | @u p q A T h t ih=>
  obtain⟨k,v⟩:=p;obtain⟨B,a⟩:=q;obtain⟨rfl,r⟩:=h;unfold valueAt;rw[show ft ((k,a)::_) x=if k=x then some a else ft _ x from rfl];rw[List.find?_cons]
  by_cases e:k=x
  ·exact .inr ⟨a,v,if_pos e,by simp[e],r⟩
  ·rw[if_neg e];simp only[e,decide_false];exact ih
section
variable {S:cZ}{R:aU S}{os:aJ}{en:List SV}{s:Shared}
def iF.map(t:iF S.g d T)(I:bo R os en s):∃f,s.heap.MapOf (strKind S.g.prog S.g.w) d f/\∀x,(ft T x=none/\f x=none)\/∃a v,ft T x=some a/\f x=some v/\cf S.g (R.V os s.heap) v a:=by
 obtain⟨B,h,r⟩:=t.oK;refine⟨valueAt B,(h.keep λb o e=>(I.c.base b o e).2.2).mapOf,λx=>(zq r x).imp id λF=>eK F λa C=>eK C λv E=>aK E λA G=>aK G λD r=>⟨a,v,A,D,r.mono I.c.base⟩⟩
def MapOf.typeIs{K:Type}[DecidableEq K]{prog:Program}{w:World}{A:KeyKind prog w K}{s:Shared}{d:Addr}{f:K->Option Value}(h:s.heap.MapOf A d f):s.TypeIs (.ref d) "dict":=by obtain⟨o,_,_,e,x,_⟩:=h;exact⟨o,e,x.1⟩
def SE.cY(t:iF S.g d S.G.c)(F:dX S nm (.ref d))(M:SE S a x)(hs:gH x=true):SE S (.op .cY [a]) (.Subscript (.Name nm np) x p):=λR os en s I=>by
 show J R os s (eval (.Name nm np) R.ah>>=λo=>holding [o] (eval x R.ah)>>=λi=>standAt p>>=λz=>subscriptTail (.Name nm np) x o i) ((bu S.G S.call [a] en).i _) _;rw[pX];refine J.step (dZ I F ⟨.d,J.e (J.l (M R I)) λz B r=>J.h (J.q B λw L=>?_)⟩);obtain⟨y,rfl,e⟩:=kU L;obtain⟨u,rfl⟩:=r.j;obtain⟨f,C,E⟩:=t.map B;rcases E y with⟨A,_⟩|⟨b,v,A,H,D⟩
 ·rw[A]at e;cases e
 ·cases e.symm.trans A;exact subscriptTail_builtin (MapOf.typeIs C) slot_dict_getitem.lookup (wpAny_getItem_of (strKind_is _ _ y u) C H ⟨dR _,⟨rfl,rfl⟩,D⟩) (eX hs) λz=>rfl
def tA(t:iF S.g d S.G.c)(I:bo R os en s)(r:cf S.g (R.V os s.heap) v y)(H:hZ S.G .j [y]=some w)(h:∀b,w= .u b->Q (.bool b) {s with toks:=s.toks+1}):
 wpAny (model S.g.prog S.g.w) R.A (compareOp .NotIn v (.ref d)) Q E s:=by
 obtain⟨y,rfl,e⟩:=kU (show Gv _ y=some w from H);obtain⟨u,rfl⟩:=r.j;obtain⟨f,F,D⟩:=t.map I;refine wpAny_notIn_of (strKind_is _ _ y u) t.ns F (h _ ?_);rcases D y with⟨B,C⟩|⟨b,v,B,C,_⟩<;>(rw[B]at e;rw[C];exact(dG e).symm)
def SB.j(t:iF S.g d S.G.c)(D:dX S nm (.ref d))(E:SE S a x):SB S (.op .j [a]) (.Compare x [.NotIn] [.Name nm np] p):=λR os en s I=>by
 show J R os s (eval x R.ah>>=λv=>testChain p v [.NotIn] (markedEach [.NotIn] [.Name nm np] (evalEach [.Name nm np] R.ah))) (bb ((bu S.G S.call [a] en).i _)) _;rw[markedEach_of_false _ _ _ rfl,pX];unfold bb;rw[aE];refine J.e (E R I) λz A B=>?_;rw[aE];refine J.j cQ λw C=>J.step (wpAny_holding (dZ A D ⟨.d,J.h (J.step (wpAny_operate' (tA t A B (cM C) λb e=>⟨.tok,?_⟩)))⟩));subst e;exact wpAny_holding (wpAny_truthy_bool ⟨_,.d,rfl,A.tok⟩)
end
section
variable {S:cZ}{R:aU S}{os:aJ}{en:List SV}{s:Shared}
def xV(T:List (Str×Str)):List (Str×AV):=T.map λp=>(p.1,.j p.2)
theorem oA(x):∀T:List (Str×Str),ft (xV T) x=(ft T x).map .j
 |[]=>rfl
 |(k,v)::r=>by
  show(if k=x then some (AV.j v)else ft (xV r) x)=(if k=x then some v else ft r x).map .j
  by_cases e:k=x
  ·rw[if_pos e,if_pos e];rfl
  ·rw[if_neg e,if_neg e];exact oA x r
def J.m{C F B I:Type}{K:C->(B->Shared->Prop)->Shared->Prop}{t:Sem C}{D:Sem B}{r:aD F}{f:F->aD I}{P:aJ->F->C->Shared->Prop}{G:aJ->I->B->Shared->Prop}
 (imp:∀(H:B->Shared->Prop) (E:Value->Shared->Prop),wpAny (model S.g.prog S.g.w) R.A t (λa s'=>K a H s') E s->wpAny (model S.g.prog S.g.w) R.A D H E s)
 (h:J R os s t r P) (L:∀b,f b≠.bG) (M:∀os' b v s' d,Le R os s os' s'->P os' b v s'->f b= .oK d->K v (λc N=>JP R os s G d c N) s'):J R os s D (r.i f) G:=by
 induction r using Mine.bf with
 |oK b=>
  show Wt S.g R.A D s (f b) _ _
  induction e:f b using Mine.bf with
  |oK d=>exact imp _ _ (wpAny_mono h (λv s'=>JP.a λos' l p=>M os' b v s' d l p e) λz z x=>x)
  |bG=>exact absurd e (L b)
  |aA=>trivial
 |bG=>exact imp _ _ (wpAny_mono h (λz z x=>x.elim) λz z x=>x)
 |aA=>trivial
def jz{A B:Type}{o:Option A}{f:A->B}:((aD.d o).i λw=>aD.oK (f w))≠.bG:=by cases o<;>exact nofun
def jy{B A:Type}{o:Option B}{f:B->A}{d:A}(h:((aD.d o).i λw=>aD.oK (f w))= .oK d):f9 (λw=>o=some w) (λw=>d=f w):=by
 induction o using aF with
 |none=>cases h
 |some w=>cases h;exact⟨w,rfl,rfl⟩
def SE.n(t:iF S.g d (xV S.G.b))(n:z=⟨#[]⟩)(j:dX S nm (.ref d))(H:SA S a x)(hl:(ap.endLine==p.line)=true):SE S (.op .n [a]) (.Call (.Attribute (.Name nm np) "get" ap) [x,.Constant (.str z) k cp] [] p):=λR os en s I=>by
 show J R os s _ ((bu S.G S.call [a] en).i _) _;rw[pX];refine bB λP0 W=>?_;obtain⟨f0,N,_⟩:=t.map I;refine W ?_;refine J.m (K:=λv P C=>∀E u,wpAny (model S.g.prog S.g.w) R.A (PySem.call (.builtin "dict.get") [.ref d,v,.str z u] []) P E {C with toks:=C.toks+1})
  (λP E h=>wpAny_Call_method rfl (by rw[aM H.2];rfl) hl PySem.F.plainAttrs_dict PySem.F.slot_dict_get PySem.F.type_dict_get (dZ I j ⟨MapOf.typeIs N,(λc e=>by cases e;obtain⟨o,_,_,e,x,_⟩:=N;exact⟨o,e,x.2.1⟩:∀c,Value.ref d= .ref c->∃U,s.heap.get? c=some U/\U.dict=Option.none),callWith_builtin (by rw[aM H.2];rfl) ?_⟩))
  (H.1 R I) (λT=>jz) λD b v C w l dO e E u=>aK dO λO r=>?_
 ·rw[aM H.2];exact evalArgs_plain (spliced_cons (wpAny_mono h (λv C q=>by refine spliced_cons (x:=eval (.Constant (.str z) k cp) R.ah) ?_;exact wpAny_Constant_str (spliced_nil (q E _))) λT T e=>e))
 ·obtain⟨w',X,rfl⟩:=jy e;obtain⟨y,i,e3⟩:=kU (show Gv _ b.1=some w' from X);rw[i]at r;obtain⟨m,rfl⟩:=r.j;obtain⟨f,Q,Z⟩:=t.map O;refine call_meetsIn (s:={C with toks:=C.toks+1}) PySem.F.slot_dict_get (MapOf.typeIs Q) PySem.F.entry_dict_get (PySem.F.args_dict_get_3 _ _ _) (meets_dict_get_default _ d (strKind_is _ _ y m) t.ns _) ⟨f,Q,D,l.trans .tok,O.tok,?_⟩;cases e3;show cf S.g (R.V D C.heap) ((f y).getD (.str z u)) (.j ((ft S.G.b y).getD ⟨#[]⟩));have B:=oA y S.G.b;rcases Z y with⟨L,M⟩|⟨b',v,L,M,Y⟩
  ·rw[M];rw[L]at B
   induction q:ft S.G.b y using aF with
   |none=>exact n▸aZ.j _ _
   |some z=>rw[q]at B;cases B
  ·rw[M];rw[L]at B
   induction q:ft S.G.b y using aF with
   |none=>rw[q]at B;cases B
   |some z=>rw[q]at B;cases B;exact Y
def tT:∀{A:List PyData} {i k:Nat},oH d i A=some k->∃j,k=i+j/\(∃y,A[j]? =some y/\PyData.eqv y d=true)/\∀m y,m<j->A[m]? =some y->PyData.eqv y d=false:=by
 intro A
 induction A with
 |nil=>exact λh=>nomatch h
 |cons y A E=>
  intro i k h;have h:(if PyData.eqv y d then some i else oH d (i+1) A)=some k:=h
  by_cases q:PyData.eqv y d=true
  ·rw[if_pos q]at h;cases h;exact⟨0,rfl,⟨y,rfl,q⟩,λm C B=>absurd B (Nat.not_lt_zero m)⟩
  ·rw[if_neg q]at h;obtain⟨j,e,G,F⟩:=E h;refine⟨j+1,by rw[e,Nat.add_assoc,Nat.add_comm 1 j],G,λm C B D=>?_⟩
   induction m using dU with
   |zero=>cases D;exact Bool.not_eq_true _ ▸q
   |succ m=>exact F m C (Nat.lt_of_succ_lt_succ B) D
def SE.index(ha:SE S a o)(hx:dn S y x)(hb:∀ah,attributeBase o "index" ah (eval o ah)=eval o ah)(hl:(ap.endLine==p.line)=true):SE S (.op .index [a,.H y Option.none]) (.Call (.Attribute o "index" ap) [x] [] p):=λR os en s I=>by
 show J R os s _ ((bu S.G S.call [a,.H y Option.none] en).i _) _
 have qu:bV x=true:=by obtain⟨_,_,rfl,_⟩:=hx;rfl
 rw[Bh];refine J.O (K:=λov B=>B.TypeIs ov "list"/\∀a,ov= .ref a->∃ob,B.heap.get? a=some ob/\ob.dict=Option.none) (t:=eval o R.ah) (k:=λov=>callWith p (.builtin "list.index") [ov] (backTo p (starEach [x] R.ah)) [])
  (λQ E h=>wpAny_Call_method (hb _) (by rw[aM qu];rfl) hl PySem.F.plainAttrs_list PySem.F.slot_list_index PySem.F.type_list_index (wpAny_mono h (λT T q=>⟨q.1.1,q.1.2,q.2⟩) λT T e=>e)) (ha R I) λos' b v s' l O nM=>aK O λI' r=>?_
 obtain⟨w,H⟩:=b
 have hw:∃l,w= .aj l:=by
  induction q:mR w using aF with
  |none=>
   refine absurd ?_ nM
   show((aD.d (Fq H y Option.none)).i λy=>(aD.d (AU w y.1)).i λw=>aD.oK (w,y.2))= .aA
   induction Fq H y Option.none using aF with
   |none=>rfl
   |some c=>show((aD.d ((mR w).bind _)).i _)=_;rw[q];rfl
  |some l=>
   induction w using su with
   |l=>exact⟨_,rfl⟩
   |_ =>cases q
 obtain⟨P,rfl⟩:=hw;obtain⟨c,arr,n,rfl,N,rr,bd⟩:=r.aj;refine⟨⟨(aQ N.2.2).typeIs,λa e=>by cases e;exact⟨_,N.2.2,rfl⟩⟩,?_⟩;refine J.m (K:=λv Q B=>∀E,B.TypeIs (.ref c) "list"/\argsOk "list.index" ⟨[.ref c,v],[]⟩/\∃V,Meets (Builtin.«list.index» ⟨[.ref c,v],[]⟩) V/\V R.A (wants Q E) B)
  (λQ E h=>by rw[aM qu];exact seqMethod1_meets PySem.F.slot_list_index PySem.F.entry_list_index (wpAny_mono h (λv B q=>q E) λT T e=>e)) (jP.name (p:=Option.none) hx R I') (λT=>jz) λfq g v2 M d W O e E=>aK O λka T=>aK ka λI2 r2=>?_
 refine bB λP0 aC=>?_;obtain⟨w2,e1,rfl⟩:=jy e;obtain⟨_,C,n2,e0,hd,X,_⟩:=(W.rep (a:=.aj P) (.c N rr bd)).aj;cases e0;refine dg (show(g.1.data.bind λd=>(cb P).bind λD=>if min (PyData.depthAll D) d.depth<=50 then(oH d 0 D).map λ(k:Nat)=>AV.m (k:Int)else Option.none)=some w2 from e1) λY e3 e4=>?_;refine dg e4 λD e5 e6=>?_;refine lr e6 λq e7=>?_;refine pK e7 λk e8 bS=>?_;obtain rfl:=bS;obtain⟨j,ej,⟨y',i,eq⟩,HG⟩:=tT e8;obtain⟨YK,Vy,X5⟩:=fF g.1 r2.at e3;obtain⟨YJ,f,Ul⟩:=g7 P (kN.iff.mpr (X.mono Vw.at)) e5;have u:=readsAll_map D _ _ Ul f
 have Z:∀{m:Nat} (L:m<C.size),f9 (λz=>D[m]? =some z) (λz=>readOf M.heap C[m]=z):=λ{m} L=>by
  have:(C.toList.map (readOf M.heap))[m]? =some (readOf M.heap C[m]):=by rw[di,mH,Array.getElem?_eq_getElem L];rfl
  rw[u]at this;exact⟨_,this,rfl⟩
 have U:j<C.size:=by
  have:=aS i;rw[<-u,cz,mF]at this;exact this
 obtain⟨z,z1,z2⟩:=Z U;cases z1.symm.trans i
 have hB:dF<2^63-1:=by decide
 refine aC (⟨(aQ hd.2.2).typeIs,PySem.F.args_list_index_2 _ _,_,list_indexAt c C n2 Option.none #[] v2 (λy=>PyData.eqv (readOf M.heap y) Y) j U (U0 U (bX X) bd) (by rw[z2];exact eq) (λm L nN=>?_),hd.2.2,items_eqAt f Vy Ul X5 (by have:=R.room;exact RZ this q:R.A.units+1+min (PyData.depthAll D) Y.depth<cLine),fq,W.trans .tok,I2.tok,?_⟩)
 ·obtain⟨z',z3,z4⟩:=Z L;rw[z4];exact HG m z' nN z3
 ·rw[ej,Nat.zero_add];exact aZ.m _ _
end
section
open Sem (wp)
def xk:Slot "function" "__getattribute__" "object.__getattribute__":=.of (owner:="object") (n:="__getattribute__") (by rw[typeLookup_type,builtinLookup_eq_fast];kernel_rfl) (by decide+kernel) (by decide+kernel) (by decide+kernel)
 (by first |exact .inl (by decide+kernel)|exact .inr (by decide+kernel)) (by rw[isSubtype_type];kernel_rfl)
def Ba:typeLookup (.type "function") "__class__" =pure (some (.builtin "object.__class__")):=by rw[typeLookup_type,builtinLookup_eq_fast];kernel_rfl
def A_:isSubtype (.type "function") (.type (".".intercalate ("object.__class__".cutAt '.').dropLast))=pure true:=by
 rw[PySem.F.owner_object_class,isSubtype_type];kernel_rfl
section
variable {prog:Program}{w:World}{A:Around}{E:Value->Shared->Prop}{h:Heap}{g:Array GenState}{d:Drawn}{t:Nat}{os:OsState}{a:Addr}{o:Obj}
def rQ(B:h.get? a=some o)(C:o.cls= .type "function")(D:R (.ok (.ret (.type "function"))) ⟨h,g,d,t,os⟩):
 codeAny (model prog w) A (.call (.builtin "getset_descriptor.__get__") ⟨[.builtin "object.__class__",.ref a,.type "function"],[]⟩) R ⟨h,g,d,t,os⟩:=by
 have H:(⟨h,g,d,t,os⟩:Shared).TypeIs (.ref a) "function":=⟨_,B,C⟩;have G:=A_;refine codeAny_call_builtin PySem.F.slot_gs_get.plain PySem.F.entry_gs_get (PySem.F.slot_gs_get.check _ _ _ _ _ _ _ _ (PySem.F.typeOf_object_class:(⟨h,g,d,t,os⟩:Shared).TypeIs (.builtin "object.__class__") "getset_descriptor") (PySem.F.args_gs_get _ _ _) ?_)
 repeat (any_goals (first |assumption |wp_step))
 refine⟨Code.quiet_builtin _ (by decide+kernel),codeAny_builtin PySem.F.entry_object_class ?_⟩
 repeat (any_goals (first |assumption |wp_step))
def o9(C:h.get? a=some o)(B:o.cls= .type "function")(M:Q (.done (.ret (.type "function"))) ⟨h,g,d,t,os⟩):
 wpAny (model prog w) A (Builtin.«object.__getattribute__» ⟨[.ref a,.str "__class__" I],[]⟩) Q E ⟨h,g,d,t,os⟩:=by
 have H:(⟨h,g,d,t,os⟩:Shared).TypeIs (.ref a) "function":=⟨_,C,B⟩;have N:(⟨h,g,d,t,os⟩:Shared).TypeIs (.builtin "object.__class__") "getset_descriptor":=PySem.F.typeOf_object_class;have D:=Ba;have G:=PySem.F.typeOf_object_class;have L:=PySem.F.slot_gs_get.lookup;have O:=PySem.F.slot_gs_set.lookup
 repeat (any_goals (first |assumption |wp_step))
 refine rQ C B ?_
 repeat (any_goals (first |assumption |wp_step))
def uy(B:h.get? a=some o)(C:o.cls= .type "function")(D:Q (.type "function") ⟨h,g,d,t,os⟩):wpAny (model prog w) A (getAttrBy (.ref a) (.str "__class__" I) false) Q E ⟨h,g,d,t,os⟩:=by
 have H:(⟨h,g,d,t,os⟩:Shared).TypeIs (.ref a) "function":=⟨_,B,C⟩;have L:=xk.lookup;have G:=xk.bind (.ref a)
 repeat (any_goals (first |assumption |wp_step))
 refine codeAny_call_builtin xk.plain PySem.F.entry_object_getattribute (xk.check _ _ _ _ _ _ _ _ (show(⟨h,g,d,t,os⟩:Shared).TypeIs (.ref a) "function" from⟨_,B,C⟩) (PySem.F.args_object_getattribute_2 _ _) (o9 B C ?_))
 repeat (any_goals (first |assumption |wp_step))
def Bz(B:h.get? a=some o)(C:o.cls= .type "function")(D:Q (some (.type "function")) ⟨h,g,d,t+1,os⟩):wpAny (model prog w) A (getAttr? (.ref a) "__class__") Q E ⟨h,g,d,t,os⟩:=by
 unfold getAttr? getAttrBy?
 repeat (any_goals (first |assumption |with_reducible apply uy B C |wp_step))
end
def DX{K:Frag}:KitX K (.ref a) (.type "function") (KitAt a "function"):=kitx_of kitAt_ty (λ{z z z z z s} p k=>by obtain⟨h,g,d,t,C⟩:=s;obtain⟨o,B,A⟩:=p;exact Bz B A k)
noncomputable def sJ:AV->String
 |.s c=>(match c with |.r=>"NoneType" |.u _ =>"bool" |.m _ =>"int" |.j _ =>"str" |.fn _ =>"function")
 |.n _ _ =>"tuple"
def LV{g:Gd}(M:k<4)(e:∀a w,D4 k a=some w->∃b,w= .u b/\kitOne g.K (.type (sJ a)) G=some b):uV g k G:=λ{V s A a w v Q} D F C r R=>by
 obtain⟨b,rfl,e⟩:=e a w C;have B:∀{H:Heap->Prop},KitX g.K v (.type (sJ a)) H->H s.heap->v≠.builtin "__main__.__loader__#opaque"->wpAny (model g.prog g.w) A (PySem.call (.builtin "isinstance") [v,G] []) Q (λz z=>False) s:=λZ p O=>kia_one Z (g.fH.keeps λb o e=>D _ _ (F b o e):g.K.In s.heap) p e O λN=>R b N rfl
 induction a using Mine.AV.casesOn with
 |s c=>
  cases(show aZ g v c from r)with
  |r=>exact B kitx_none trivial nofun
  |u b=>exact B kitx_bool trivial nofun
  |m i t=>exact B kitx_int trivial nofun
  |j x t=>exact B kitx_str trivial nofun
  |fn f=>obtain⟨o,_,S,P,_⟩:=g.T_ f;exact B DX ⟨o,D _ _ (F _ _ S),P⟩ nofun
 |n E l=>
  by_cases I:E=0
  ·subst I;obtain⟨c,L,n,rfl,h,_⟩:=cf.tup r;exact B kitx_tuple ⟨_,D _ _ h,rfl⟩ nofun
  ·replace C:(if E=0 then(if k<4 then some (AV.u (k==2))else none)else if 3<k/\k=E+2 then some (AV.u true)else none)=some (AV.u b):=C;rw[if_neg I]at C;exact absurd M (eH.mpr ((fK C).1).1)
structure RW(g:Gd)(D:Addr):Prop where
 hg:plainGet g.K D "__class__" =true
 hd:hasDictIn g.K D=true
 ha:findIn g.K (.ref D) "__class__" =some (some (.builtin "object.__class__"))
 hn:specialIn g.K (.builtin "object.__class__") "__get__" =some (some (.builtin "getset_descriptor.__get__"))
 ht:takesIn g.K (.builtin "object.__class__")=some true
 hm:mroIn g.K D (.type "object")=some true
def LU(I:k=c+4)(h:RW g (g.cls c)):uV g k (.ref (g.cls c)):=λ{V s A a w v Q} E M B r P=>by
 refine bB λU G=>?_
 obtain⟨l,rfl,rfl⟩:=(by
  subst I
  induction a using Mine.AV.casesOn with
  |s x=>
   have D:∀b,(if c+4<4 then some (AV.u b)else none)=some w->False:=λb h=>absurd (fK h).1 (eH.mpr (gY _ _))
   induction x using Mine.Sc.casesOn with
   |r=>exact(D false B).elim
   |u b=>exact(D (c+4==0 || c+4==1) B).elim
   |m b=>exact(D (c+4==0) B).elim
   |j b=>exact(D (c+4==3) B).elim
   |fn f=>exact absurd (fK (show(if c+4=2 then some (AV.u false)else none)=some w from B)).1 (λq=>Nat.succ_ne_zero _ (Nat.succ.inj (Nat.succ.inj q)))
  |n C l=>
   replace B:(if C=0 then(if c+4<4 then some (AV.u (c+4==2))else none)else if 3<c+4/\c+4=C+2 then some (AV.u true)else none)=some w:=B
   by_cases F:C=0
   ·rw[if_pos F]at B;obtain⟨q,_⟩:=fK B;exact absurd q (eH.mpr (gY _ _))
   ·rw[if_neg F]at B;obtain⟨q,B⟩:=fK B;cases B
    exact⟨l,by rw[show C=c+2 from(Nat.succ.inj (Nat.succ.inj q.2)).symm],rfl⟩:∃l,a= .n (c+2) l/\w= .u true)
 obtain⟨R,S,sh,_⟩:=r.node;obtain⟨b,d,L,m,rfl,H,O,_⟩:=sh.inv2;exact G (kia_one (kitx_own (ox:=instObj (g.cls c) d) (od:=dictOf L m) h.hg h.hd h.ha h.hn h.ht h.hm) (g.fH.keeps λb o e=>E _ _ (M b o e):g.K.In s.heap) ⟨E _ _ H,rfl,rfl,E _ _ O⟩ (by unfold kitOne;rw[if_pos (beq_self_eq_true _)]) nofun λN=>P true N rfl)
end
def qK(items)(B A):(slicePick items B A none).toList=lP items.toList B A:=by
 rw[slicePick_plain];rfl
def cm.f(h:cm g V vs l)(B A):cm g V (lP vs B A) (lP l B A):=by
 unfold lP;rw[h.E];exact(h.drop _).take _
def kg(B:IsTup s.heap t items)(hs:s.heap.IsSliceOf C (.int 0 u) .none .none)
 (h:Q (.ref t) s):wpAny (model prog w) A (getItem (.ref t) (.ref C)) Q E s:=by
 obtain⟨G,H,L,M⟩:=id hs;unfold getItem;refine wpAny_holding ?_;refine wpAny_bind (wpAny_sequenceKey B.typeIs (by decide) ?_)
 refine wpAny_bind (wpAny_callSpecial?_slot (name:=Str.ofString "__getitem__") B.typeIs slot_tuple_getitem
  (wpAny_call_entry slot_tuple_getitem B.typeIs entry_tuple_getitem ?_ (args_tuple_getitem _ _)))
 show wpAny _ _ (Builtin.Tuple.tupleItemsOf (.ref t)>>=_) _ _ s;refine wpAny_bind (tupleItemsOf_ B ?_);refine wpAny_bind (wpAny_typeOf (⟨G,H,L⟩:s.TypeIs (.ref C) "slice") ?_);rw[if_pos (by decide)];refine wpAny_bind (sliceApplied_from (a:=0) hs (da _) ?_);show wpAny _ _ (if(((0:Nat):Int)==0&&(1:Int)==1&&(items.size-0)==items.size)=true then _ else _) _ _ s;rw[if_pos (by simp:(((0:Nat):Int)==0&&(1:Int)==1&&(items.size-0)==items.size)=true)];refine wpAny_bind (m:=Builtin.Tuple.tupleIsExact (.ref t)) ?_;obtain⟨F,I,D,m,N⟩:=id B;unfold Builtin.Tuple.tupleIsExact;refine wpAny_bind (wpAny_typeOf ⟨F,I,D⟩ (wpAny_pure ?_));rw[if_pos (by decide)];exact wpAny_bind (wpAny_rule (wpAny_pure ⟨_,rfl,wpAny_pure h⟩))
def ti(x)(j)(A):slicePicked x none (some (j,A)) none=(List.range (clipAt x.length j-0)).map (0+ ·):=by
 rw[<-sliceRange_one 0 (clipAt x.length j),clipAt_cast];rfl
def ya(x)(j)(A):(slicePicked x none (some (j,A)) none).length=clipAt x.length j:=by
 rw[ti,cz,List.length_range];rfl
def zr:((slicePicked x none (some (j,t0)) none).filterMap (x.cps[·]?))=x.cps.toList.take (clipAt x.length j):=by
 rw[ti,pick_run];rfl
inductive qc(S:cZ):Bool->List IE->Option Expr->Prop
 |no:qc S false [] none
 |yes {a e} (h:SE S a e):qc S true [a] (some e)
inductive lL(g:Gd)(V:cR):Bool->Value->List AV->Prop
 |no:lL g V false .none []
 |yes {v w} (r:cf g V v w):lL g V true v [w]
def uE{g:Gd}{V:cR}{A:Bool}{v:Value}{ws rest r':List AV}{o:Option Int}(h:lL g V A v ws)(e:uF A (ws++rest)=some (o,r')):r'=rest/\IsPart v o:=by
 cases h with
 |no=>cases e;exact⟨rfl,.none⟩
 |yes r=>
  refine pK e λi B C=>?_;cases C;obtain⟨t,rfl⟩:=(jE B▸r).m;exact⟨rfl,.int _ _⟩
def qn(h:IsPart v (some i)):∃t,v= .int i t:=by cases h;exact⟨_,rfl⟩
def qo(h:IsPart v none):v= .none:=by cases h;rfl
theorem xr{G:jn}{A:Nat->List SV->aD (SV×List SV)}:∀{l r:List IE} {en:List SV},bu G A (l++r) en=(bu G A l en).i λx=>(bu G A r x.2).i λy=>.oK (x.1++y.1,y.2)
 |[],r,en=>by
  show bu G A r en=(bu G A r en).i λy=>.oK (y.1,y.2);cases bu G A r en<;>rfl
 |a::l,r,en=>by
  show(ev G A a en).i _=((ev G A a en).i _).i _
  rw[aE]
  congr 1;funext x
  show(bu G A (l++r) x.2).i _=((bu G A l x.2).i _).i _
  rw[xr,aE,aE]
  congr 1;funext y
  rw[aE];rfl
section
variable {S:cZ}{R:aU S}{os:aJ}{en:List SV}{s:Shared}
def Ac(h:qc S b es x)(R:aU S)(I:bo R os en s):
 J R os s (valueOrNone (evalOpt x R.ah)) (bu S.G S.call es en) (λos c v s=>bo R os c.2 s/\lL S.g (R.V os s.heap) b v c.1):=by
 cases h with
 |no=>exact J.here ⟨I,.no⟩
 |yes h=>
  show J R os s _ ((ev S.G S.call _ en).i λx=>.oK ([x.1],x.2)) _;exact J.post (h R I) λA b v B p=>⟨nofun,λc e=>by cases e;exact⟨p.1,.yes p.2⟩⟩
def lL.mono(m:V.le V')(h:lL g V b v ws):lL g V' b v ws:=by
 cases h with
 |no=>exact .no
 |yes r=>exact .yes (r.mono m)
set_option tactic.hygienic true in
def vg{I:bo R os en s}(hs:s.heap.IsSliceOf b lv U .none)(N:IsPart lv l)(O:IsPart U h)(r:cf S.g (R.V os s.heap) v a)(B:vh a l h=some w):
 wpAny (model S.g.prog S.g.w) R.A (subscriptTail x (.Slice W X none p) v (.ref b)) (λv s'=>s.heap.StaysIn s'.heap/\fb s s'/\cf S.g (R.V os s'.heap) v w) (λz z=>False) s:=by
 have F:∀{o:Obj},o.isFreed=false->R.V os (s.heap.push o) s.heap.objs.size o:=λe=>I.c.new bJ (ib _ e)
 induction a using su with
 |l M=>
  cases B;obtain⟨c,Q,m,rfl,L,D,C⟩:=r.aj;have E:=aQ L.2.2;refine tail_any E.typeIs slot_list_getitem.lookup (wpAny_getItem_list_slice E hs N O .none (by decide) ⟨aI,⟨rfl,rfl⟩,.c (l:=lP M l h) (F rfl) ?_ ?_⟩ (by rw[(bX D)];exact C)) rfl
  ·rw[qK];exact(D.mono (dE.b aI).c9).f _ _
  ·exact az ((List.take_sublist _ _).trans (List.drop_sublist _ _)).length_le C
 |t M=>
  rcases l with _ |i
  ·cases B
  rcases h with _ |i2
  rotate_left
  ·cases B
  refine lr B λH B=>?_;cases B;obtain⟨c,Q,m,rfl,L,D,C⟩:=r.tup;have E:=bY L.2.2;have P:=bX D;obtain⟨t,rfl⟩:=qn N;obtain rfl:=qo O;obtain⟨k,rfl⟩:=Int.eq_ofNat_of_zero_le H.1;refine tail_any E.typeIs slot_tuple_getitem.lookup ?_ rfl
  induction k using dU with
  |zero=>exact kg E hs ⟨dR _,.d _,.d L D C⟩
  |succ k=>exact getItem_tuple_from (a:=k+1) E hs (gY _ _) (P▸Int.ofNat_le.mp H.2) ⟨aI,⟨rfl,rfl⟩,.d (l:=M.drop (k+1)) (F rfl) ((D.mono (dE.b aI).c9).drop (k+1)) (az (List.drop_sublist _ _).length_le C)⟩ (by rw[P];exact C)
 |s G=>
  rcases l with _ |i2
  rotate_left
  ·cases B
  rcases h with _ |i
  ·cases B
  refine lr B λH B=>?_;cases B;obtain⟨u,rfl⟩:=r.j;obtain rfl:=qo N;obtain⟨t,rfl⟩:=qn O;refine tail_any (typeIs_str s G u) slot_str_getitem.lookup (wpAny_getItem_str_slice (show s.heap.IsSlice b none (some (i,t)) none from hs) rfl ?_) rfl;unfold sliceMade;rw[zr,ya]
  split
  ·rename_i q;rw[beq_iff_eq.mp (jo.mp q).2,List.take_of_length_le (show G.cps.toList.length<=Str.length G from Nat.le_of_eq mF)];exact⟨dR _,.d _,aZ.j _ _⟩
  ·exact⟨az (show(List.take _ G.cps.toList).toArray.size<=_ by rw[List.size_toArray,List.length_take];exact Nat.min_le_left _ _) (az H (by decide)),dR _,⟨rfl,rfl⟩,aZ.j _ _⟩
 |_ =>cases B
def SE.f{C D:Bool}{a:IE}{l h:List IE}{x:Expr}{H L:Option Expr}{p pos:Pos}(ha:SE S a x)(hl:qc S C l H)(k:qc S D h L):
 SE S (.op (.f C D) (a::(l++h))) (.Subscript x (.Slice H L Option.none p) pos):=λR os en s I=>by
 show J R os s (eval x R.ah>>=λo=>holding [o] (valueOrNone (evalOpt H R.ah)>>=λA=>holding [A] (valueOrNone (evalOpt L R.ah))>>=λB=>holding [A,B] (pure .none)>>=λsv=>newFields "slice" [A,B,sv])>>=λi=>standAt pos>>=λK=>subscriptTail x (.Slice H L Option.none p) o i)
  (((ev S.G S.call a en).i λb=>(bu S.G S.call (l++h) b.2).i λr=>.oK (b.1::r.1,r.2)).i _) _
 rw[aE];refine J.e (ha R I) λ{dw v a u4 s1} K t d=>?_;rw[aE,xr,aE]
 refine J.i (P:=λos z (U:Value) F=>bo R os z.2 F/\∃A B b E N,U= .ref b/\F.heap.IsSliceOf b A B .none/\lL S.g (R.V os F.heap) C A E/\lL S.g (R.V os F.heap) D B N/\z.1=E++N) (r:=(bu S.G S.call l u4).i λx=>(bu S.G S.call h x.2).i λy=>.oK (x.1++y.1,y.2)) (f:=λr=>(aD.d (hZ S.G (.f C D) (a::r.1))).i λw=>.oK (w,r.2)) (J.l ?_) (λfq z U n Q p=>?_) |> Eq.mp (by congr 1;rw[aE];rfl)
 ·exact J.i (Ac hl R t) λfq b A n Q=>And.elim λM r2=>J.i (J.l (Ac k R M)) λX c B s3 u=>And.elim λI3 q=>(wpAny_bind (wpAny_holding (wpAny_pure (wpAny_newObj_type ⟨X,.b aI ⟨rfl,rfl⟩,I3.keeps aI,A,B,_,b.1,c.1,rfl,Heap.IsSliceOf.new _ _ _ _,(r2.mono u.f.c9).mono (dE.b aI).c9,q.mono (dE.b aI).c9,rfl⟩))))
 ·obtain⟨M,A,B,b,E,N,rfl,Y,pl,ph,e⟩:=p;refine J.h (J.q M λw W=>?_);rw[e]at W
  refine dg (show((uF C (E++N)).bind λx=>(uF D x.2).bind λy=>match y.2 with |[]=>vh a x.1 y.1 |_ =>Option.none)=some w from W) λO Z e2=>?_
  obtain⟨Yz,SD⟩:=O;obtain⟨rfl,m⟩:=uE pl Z;refine dg e2 λO e3 e4=>?_;obtain⟨TL,Sy⟩:=O;obtain⟨rfl,j⟩:=uE (rest:=[]) ph (by rw[List.append_nil];exact e3);exact vg (I:=M) Y m j (Q.rep d) e4
end
section
variable {S:cZ}{R:aU S}{os:aJ}{en:List SV}{s:Shared}
def J.then(h:J R os s t r P)(B:∀os' b v s',Le R os s os' s'->P os' b v s'->J R os' s' (k v) (.oK b) A):J R os s (t>>=k) r A:=by
 cases r<;>exact(J.i (f:=.oK) h B)
def C3(r:cf S.g (R.V os s.heap) v b)(m:hZ S.G .w [a,b]=some w)
 (h:∀l vs h',w= .aj (a::l)->l.length<1000->cm S.g (R.V os s.heap) vs l->s.heap.StaysIn h'->Q vs {s with heap:=h'}):StarOf (model S.g.prog S.g.w) R.A E v Q s:=by
 refine bB λp X=>?_;refine dg (show((dT b).bind λq=>if q.1<2/\q.2.length<1000 then some (AV.aj (a::q.2))else none)=some w from m) λM Y j=>?_;obtain⟨k,l⟩:=M;refine lr j λM u=>?_;obtain⟨q,O⟩:=M;cases eQ Y;cases u
 have B:∀{c:Addr} {o:Obj} {T:String} {H:Array Value} {n:Nat},s.heap.get? c=some o->o.cls= .type T->o.data= .seq H n->T= "list"\/T= "tuple"->cm S.g (R.V os s.heap) H.toList l->StarOf (model S.g.prog S.g.w) R.A E (.ref c) Q s:=λ{c o T H n} D N y U P=>by
  have W:s.TypeIs (.ref c) T:=⟨o,D,N⟩;have z:wpAny (model S.g.prog S.g.w) R.A (collect (.ref c)) Q E s:=wpAny_collect_seq c U D N y (λh' Z=>h l _ h' rfl O P Z) (by rw[bX P];exact az (fj O) (show 1000<=sizeLine by decide));unfold StarOf notIterableAtAll;rcases U with rfl |rfl
  ·exact wpAny_bind (wpAny_specialOf W PySem.F.slot_list_iter.lookup (wpAny_pure ⟨rfl,z⟩))
  ·exact wpAny_bind (wpAny_specialOf W PySem.F.slot_tuple_iter.lookup (wpAny_pure ⟨rfl,z⟩))
 refine X ?_;rcases lV q with rfl |rfl
 ·obtain⟨c,C,n,rfl,L,I,_⟩:=r.tup;exact B L.2.2 rfl rfl (.inr rfl) I
 ·obtain⟨c,C,n,rfl,L,I,_⟩:=r.aj;exact B L.2.2 rfl rfl (.inl rfl) I
def SE.w(j:SA S a x)(o:SE S b y):SE S (.op .w [a,b]) (.List [x,.Starred y q] p):=λR os en s I=>by
 show J R os s (standAt p>>=λT=>spliced (backTo p (starEach [x,.Starred y q] R.ah))>>=λk=>newList k) ((bu S.G S.call [a,b] en).i _) _;rw[aM j.2,Bh];refine J.h (J.then (P:=λos d D B=>bo R os d.2 B/\∃l,d.1= .aj l/\l.length<=1000/\cm S.g (R.V os B.heap) D l) ?_ λO d D B l p=>?_)
 ·refine J.e (j.1 R I) λ{dw m W u4 n} T t Q=>J.step (wpAny_pure ⟨.d,J.then (P:=λos d D B=>bo R os d.2 B/\cf S.g (R.V os B.heap) m W/\∃l,d.1= .aj (W::l)/\l.length<1000/\cm S.g (R.V os B.heap) D l) (J.l (J.m (K:=λv Z B=>∀E,StarOf (model S.g.prog S.g.w) R.A E v (λC L=>Z (C++[]) L) B)
   (λZ E h=>items_star (pos:=p) (p:=q) (rest:=[]) (wpAny_mono h (λv n q=>?_) λT T e=>e)) (o R t) (λT=>jz) λX b2 v2 L d N dO e E=>aK dO λU r2=>?_)) λX d D L N p=>?_⟩)
  ·exact wpAny_mono (q E) (λb L=>And.elim λi q2=>⟨i,wpAny_mono q2 (λC s3 h=>spliced_nil h) λT T e=>e⟩) λT T e=>e
  ·obtain⟨w,z,rfl⟩:=jy e;refine C3 r2 z λl D r ew F H M=>⟨X,N.trans (.b M (s':={L with heap:=r}) ⟨rfl,rfl⟩),U.keeps M,(N.rep Q).mono (dE.b M).c9,l,ew,F,?_⟩;rw[List.append_nil];exact H.mono (dE.b M).c9
  ·refine bB λP0 u=>?_;obtain⟨U,Q,l,e,F,H⟩:=p;exact u (J.here ⟨U,_,e,F,.u Q H⟩)
 ·obtain⟨Y,l',e,F,H⟩:=p;obtain⟨w,f⟩:=d;cases e
  have bn:(1000:Nat)<=dF:=by decide
  exact wpAny_newList ⟨O,.b aI ⟨rfl,rfl⟩,Y.keeps aI,.c (Y.c.new bJ (ib _ rfl)) (H.mono (dE.b aI).c9) (zT F rfl)⟩ (az (zE F (H.E)) (show 1000<=sizeLine by decide))
def v9{arr:Array Value}:(arr.eraseIdxIfInBounds (arr.size-1)).toList=arr.toList.dropLast:=by
 by_cases q:arr.size=0
 ·rw[Array.size_eq_zero_iff.mp q];rfl
 ·rw[Array.eraseIdxIfInBounds,dif_pos (Nat.sub_lt (Nat.pos_of_ne_zero q) Nat.one_pos),Array.toList_eraseIdx,List.eraseIdx_eq_take_drop_succ,List.dropLast_eq_take,mF,List.drop_of_length_le (by rw[mF];exact Nat.le_add_of_sub_le (fh _)),List.append_nil]
def aT.dropLast{R:α->β->Prop}(h:aT R l r):aT R l.dropLast r.dropLast:=by
 rw[List.dropLast_eq_take,List.dropLast_eq_take,h.E];exact h.take _
def SE.P{x:Nat}(W:i4 S x p pe)(Q:∀ah,attributeBase pe "pop" ah (eval pe ah)=eval pe ah)(X:(ap.endLine==q.line)=true):SE S (.P x p) (.Call (.Attribute pe "pop" ap) [] [] q):=λR os en s I=>by
 show J R os s _ ((aD.d (eY en x p)).i λl=>(aD.d l.getLast?).i λw=>.oK (w,iN en x p l.dropLast)) _;refine J.j cQ λO u=>J.j cQ λw B=>?_;have B:=cM B;obtain⟨l,v,b,A,n,Y,N,pv,C,D,G,z,j⟩:=I.list (cM u);have H:=bX D;rw[List.getLast?_eq_getElem?,<-H]at B;obtain⟨y,M,U⟩:=D.get B;refine wpAny_Call_method (Q _) rfl X PySem.F.plainAttrs_list PySem.F.slot_list_pop PySem.F.type_list_pop (il I W Y N pv rfl λt=>⟨(aQ C).typeIs,λa e=>by cases e;exact⟨_,C,rfl⟩,?_⟩);refine P.pop_list (s:={s with toks:=t}) (items:=A) (n:=n) C (by rw[<-mH];exact M) ?_ (az (zE G H) (by decide:dF<=sizeLine));obtain⟨E,_,Z⟩:=j (t:=t) (λa o L e=>Heap.get?_update_of_ne _ (Ne.symm L) e) (PySem.IsL.update (h:=s.heap) (l:=b) (items:=A) (n:=n) C (·.eraseIdxIfInBounds (A.size-1))) (r':=O.dropLast) (by show cm S.g (R.V os s.heap) (A.eraseIdxIfInBounds (A.size-1)).toList _;rw[v9];exact D.dropLast) (by rw[List.length_dropLast];exact az (Nat.sub_le _ _) G);exact⟨os,E,Z,E.rep U⟩
end
end Mine
namespace Mine
open PySem PySem.W PyProof.Rows PySem.Calls
noncomputable def U9(xs:List Nat)(en:List SV):Option SV->aD (List SV)
 |none=>.aA
 |some s=>match s with
  |.a=>.aA
  |v=>(cE xs en).i λr=>.oK (v::r)
def kX:cE (x::xs) en=U9 xs en en[x]? :=rfl
def kA:∀{ios:List Nat} {ws:List SV},cE ios en= .oK ws->ws.length=ios.length/\∀(k y:Nat),ios[k]? =some y->∃s:SV,en[y]? =some s/\s≠.a/\ws[k]? =some s:=by
 intro ios
 induction ios with
 |nil=>intro ws h;cases h;exact⟨rfl,λk y e=>nomatch e⟩
 |cons x B D=>
  intro ws h;rw[kX]at h
  induction hx:en[x]? using aF with
  |none=>rw[hx]at h;cases h
  |some v=>
   rw[hx]at h
   by_cases A:v= .a
   ·subst A;cases h
   ·have h:((cE B en).i λr=>aD.oK (v::r))= .oK ws:=by cases v<;>first |exact absurd rfl A |exact h
    induction e:cE B en using Mine.bf with
    |oK r=>
     rw[e]at h;cases h;obtain⟨E,F⟩:=D e;refine⟨congrArg Nat.succ E,λk y C=>?_⟩
     induction k using dU with
     |zero=>cases C;exact⟨v,hx,A,rfl⟩
     |succ k=>exact F k y C
    |bG=>rw[e]at h;cases h
    |aA=>rw[e]at h;cases h
theorem gB:∀{ios:List Nat},cE ios en≠.bG
 |[]=>nofun
 |x::xs=>by
  rw[kX]
  induction en[x]? using aF with
  |none=>exact nofun
  |some v=>
   have:((cE xs en).i λr=>aD.oK (v::r))≠.bG:=by
    induction e:cE xs en using Mine.bf with
    |oK r=>exact nofun
    |bG=>exact absurd e gB
    |aA=>exact nofun
   cases v<;>first |exact this |exact nofun
def kD(h:aV en x v= .oK en'):x<en.length/\en'=en.set x v:=by
 unfold aV at h
 by_cases q:x<en.length
 ·rw[if_pos q]at h;cases h;exact⟨q,rfl⟩
 ·rw[if_neg q]at h;cases h
def iK:aV en x v≠.bG:=by
 unfold aV
 split
 ·exact λh=>nomatch h
 ·exact λh=>nomatch h
theorem gv:∀{xs:List Nat} {vs en:List SV},cJ xs vs en≠.bG
 |[],[],_ =>nofun
 |[],_ ::_,_ =>nofun
 |_ ::_,[],_ =>nofun
 |x::xs,v::vs,en=>by
  show(aV en x v).i _ ≠_
  induction e:aV en x v using Mine.bf with
  |oK A=>exact gv (xs:=xs)
  |bG=>exact absurd e iK
  |aA=>exact nofun
def jv(h:cJ (x::xs) (v::vs) en= .oK en'):x<en.length/\cJ xs vs (en.set x v)= .oK en':=by
 have h:(aV en x v).i (cJ xs vs)= .oK en':=h
 induction e:aV en x v using Mine.bf with
 |oK B=>rw[e]at h;obtain⟨A,rfl⟩:=kD e;exact⟨A,h⟩
 |bG=>rw[e]at h;cases h
 |aA=>rw[e]at h;cases h
def jV:∀{xs:List Nat} {vs en en':List SV},cJ xs vs en= .oK en'->A3 (vs.length=xs.length) (en'.length=en.length) ((xs.Nodup->∀i:Nat,(i∉xs->en'[i]? =en[i]?)/\∀k:Nat,xs[k]? =some i->en'[i]? =vs[k]?)):=by
 intro xs
 induction xs with
 |nil=>
  intro vs en en' h
  induction vs using cF with
  |cons _ _ =>cases h
  |nil=>cases h;exact⟨rfl,rfl,λz i=>⟨λz=>rfl,λk e=>absurd (aS e) (Nat.not_lt_zero _)⟩⟩
 |cons x xs F=>
  intro vs en en' h
  induction vs using cF with
  |nil=>cases h
  |cons v vs=>
  obtain⟨G,h⟩:=jv h;obtain⟨E,H,B⟩:=F h;refine⟨congrArg Nat.succ E,H.trans eI,λA i=>⟨λD=>?_,λk C=>?_⟩⟩
  ·rw[(B (List.nodup_cons.mp A).2 i).1 λq=>D (.tail _ q),List.getElem?_set_ne (show x≠i from λq=>D (q▸.head _))]
  ·induction k using dU with
   |zero=>
    cases C;rw[(B (List.nodup_cons.mp A).2 x).1 (List.nodup_cons.mp A).1,List.getElem?_set_self G]
    rfl
   |succ k=>exact(B (List.nodup_cons.mp A).2 i).2 k C
section
variable {S:cZ}{R:aU S}{os os':aJ}{en en':List SV}{s s':Shared}{ios:List Nat}{ws fin:List SV}{vio vals:List Value}{vs:List AV}{m:Str->Option Value}
def wF(R:aU S)(h:Heap)(ios:List Nat)(vio:List Value):Prop:=∀(k y:Nat),ios[k]? =some y->kO (λA v=>R.cx y=some A) (λA v=>vio[k]? =some v) (λA v=>A.holds h v)
noncomputable def jC(ios:List Nat)(os:aJ):aJ:=λk=>match ios[k]? with |some y=>os y |none=>[]
def AQ{P:List Addr->Prop}(h1:∀y,ios[k]? =some y->P (os y))(A:P []):P (jC ios os k):=by
 unfold jC
 induction e:ios[k]? using aF with
 |none=>exact A
 |some y=>exact h1 y e
def kH:a∈jC ios os k->f9 (λy=>ios[k]? =some y) (λy=>a∈os y):=
 AQ (P:=λl=>a∈l->_) (λy e h=>⟨_,e,h⟩) λh=>absurd h List.not_mem_nil
def aU.away(R:aU S)(ios:List Nat)(os:aJ):dJ:=λa=>R.X a\/(R.pl a/\a≠R.L)\/∃j,j∉ios/\a∈os j
def aU.h(R:aU S):R.pl R.L:=⟨R.Li,_,R.p,rfl⟩
def mD:(R.V os h).le (Vw (R.away ios os) (Wr ((R.L,m)::R.O) cA (jC ios os)) h):=λa o B=>aK B λx C=>aK C λy e=>by
 refine⟨λq=>?_,λw=>?_,e⟩
 ·rcases q with q |q |⟨j,_,q⟩
  ·exact x q
  ·exact y (.inr (.inl q.1))
  ·exact y (.inr (.inr ⟨j,q⟩))
 ·rcases w with⟨p,A,w⟩|w |⟨k,w⟩
  ·cases A with
   |head=>exact y (.inr (.inl (w▸R.h)))
   |tail _ A=>exact y (.inl ⟨p,A,w⟩)
  ·exact w.elim
  ·obtain⟨j,_,w⟩:=kH w;exact y (.inr (.inr ⟨j,w⟩))
def bo.pass(I:bo R os en s)(i:ios.Nodup)(ht:cE ios en= .oK ws)(r:wF R s.heap ios vio)(W:vio.length=ios.length)(t:cm S.g (R.V os s.heap) vals vs)(hm:s.heap.Ns R.L m):
 cU S.g ((R.L,m)::R.O) (R.away ios os) cA (At (vio++vals)) (jC ios os) (ws++vs.map .h) s.heap:=by
 obtain⟨U,X⟩:=kA ht;refine⟨λa o e=>mD a o (I.c.base a o e),λa x=>⟨?_,λw=>?_⟩,λp A=>?_,nofun,λk a B=>?_,λk=>?_,λj k a NR B C=>?_,λk J e=>?_,λa B=>?_,λk sv e hu=>?_⟩
 ·rcases x with x |x |⟨j,_,x⟩
  ·exact(I.c.b a x).1
  ·exact(I.c.l a x.1).1
  ·exact I.c.live x
 ·have Q:∀(Z:∀p∈R.O,p.1≠a) (F:a≠R.L) (E:∀y∈ios,a∉os y),False:=λZ F E=>by
   rcases w with⟨p,A,w⟩|w |⟨k,w⟩
   ·cases A with
    |head=>exact F w.symm
    |tail _ A=>exact Z p A w
   ·exact w
   ·obtain⟨y,e,w⟩:=kH w;exact E y (fk e) w
  rcases x with x |x |⟨j,u,x⟩
  ·have q:=(I.c.b a x).2;exact Q (λp A e=>q (.inl ⟨p,A,e⟩)) (λe=>q (.inr (.inl (e▸R.h)))) λy J m=>q (.inr (.inr ⟨y,m⟩))
  ·exact Q (I.c.l a x.1).2 x.2 λy J m=>(I.c.e y a m).2 x.1
  ·have q:=I.c.e j a x;exact Q q.1 (λe=>q.2 (e▸R.h)) λy D m=>I.c.k j y a (λz=>u (z▸D)) x m
 ·cases A with
  |head=>exact hm
  |tail _ A=>exact I.c.n p A
 ·obtain⟨y,e,B⟩:=kH B;have q:=I.c.e y a B;refine⟨λp A z=>?_,id⟩
  cases A with
  |head=>exact q.2 (z▸R.h)
  |tail _ A=>exact q.1 p A z
 ·exact AQ (P:=List.Nodup) (λJ J=>I.c.nd _) .nil
 ·obtain⟨y,e,B⟩:=kH B;obtain⟨z,e',C⟩:=kH C;exact I.c.k y z a (λq=>NR ((List.getElem?_inj (aS e) i).mp ((q▸e).trans e'.symm))) B C
 ·refine AQ (P:=λl=>l=[]) (λy D=>?_) rfl;obtain⟨sv,_,F,E⟩:=X k y D;rw[lI (aS E),E]at e;exact(e.elim nofun λe=>F (dG e)).elim
 ·obtain⟨y,_,B⟩:=kH B;exact I.c.live B
 ·by_cases C:k<ios.length
  ·refine bB λP0 H=>?_;obtain⟨y,D⟩:∃y,ios[k]? =some y:=⟨ios[k],ij C⟩;obtain⟨JW,M,h,Y⟩:=X k y D;obtain⟨lc,v,N,G,b⟩:=r k y D;rw[lI (aS Y),Y]at e;cases e;obtain⟨WJ,v',z1,d,n⟩:=I.slotAt M h;cases N.symm.trans z1;cases b.inj d;refine H (⟨v,by unfold At;rw[lI (aS G)];exact G,?_⟩);rw[show jC ios os k=os y by unfold jC;rw[D]];exact n.mono mD λa J o e=>e
  ·refine bB λP0 H=>?_;have C:=eH.mp C;rw[pw (U▸C),U,di]at e;refine pK e λa M bS=>?_;obtain rfl:=bS;obtain⟨v,N,G⟩:=t.get M;refine H (⟨v,by unfold At;rw[pw (W▸C),W];exact N,?_⟩);rw[show jC ios os k=[]by unfold jC;rw[List.getElem?_eq_none C]];exact .f (.v (G.mono mD))
end
section
variable {S:cZ}{R:aU S}{os os':aJ}{en en':List SV}{s s':Shared}{ios:List Nat}{ws fin:List SV}{vio vals:List Value}{vs:List AV}{m:Str->Option Value}
def dW(ios:List Nat)(os os':aJ):aJ:=λj=>if j=tI then os' tI else if j∈ios then os' (ios.idxOf j)else os j
def iT(h:j∈ios):ios[ios.idxOf j]? =some j:=by
 rw[ij (List.idxOf_lt_length_of_mem h),List.getElem_idxOf]
def uM(h:a∈dW ios os os' j):(∃k,a∈os' k)\/j∉ios/\a∈os j:=by
 unfold dW at h
 split at h
 ·exact .inl ⟨_,h⟩
 ·split at h
  ·exact .inl ⟨_,h⟩
  ·exact .inr ⟨‹_›,h⟩
def wG(w:Wr ((R.L,m)::R.O) cA (jC ios os) a):R.W os a:=by
 rcases w with⟨p,A,w⟩|w |⟨k,w⟩
 ·cases A with
  |head=>exact .inr (.inl (w▸R.h))
  |tail _ A=>exact .inl ⟨p,A,w⟩
 ·exact w.elim
 ·obtain⟨j,_,w⟩:=kH w;exact .inr (.inr ⟨j,w⟩)
def cU.t(_C:cU g ((R.L,m)::R.O) X cA hold (jC ios os) args h):∀{a},Wr ((R.L,m)::R.O) cA (jC ios os) a->R.W os a:=wG
structure Back(R:aU S)(os:aJ)(s:Shared)(ios:List Nat)(os':aJ)(en':List SV)(s':Shared)(m:Str->Option Value):Prop where
 le:Le R os s (dW ios os os') s'
 inv:eO R (dW ios os os') en' s'
 c9:(Vw (R.away ios os) (Wr ((R.L,m)::R.O) cA os') s'.heap).le (R.V (dW ios os os') s'.heap)
def Loc.keep{l:Loc}(E:h.Ns R.L m)(N:h'.Ns R.L m)(k:l.b≠R.L->∀o,h.get? l.b=some o->h'.get? l.b=some o)(x:l.holds h v):l.holds h' v:=by
 by_cases q:l.b=R.L
 ·induction l using Mine.Loc.casesOn with
  |l d y=>
   refine bB λV F=>?_
   cases(show d=R.L from q)
   obtain⟨W,z1,H⟩:=x;obtain⟨o,I,ep,B,C,U,O⟩:=z1;obtain⟨G,Q,X,D,A,P,M⟩:=E;cases B.symm.trans D;cases C.symm.trans A;exact F (⟨m,N,(M y).symm.trans ((O y).trans H)⟩)
  |c a=>
   cases(show a=R.L from q)
   obtain⟨o,B,C⟩:=x;obtain⟨G,I,ep,D,A,_⟩:=E;cases B.symm.trans D;cases C.symm.trans A
 ·exact x.at (k q)
def Loc.e{l:Loc}(F:h.Ns R.L m)(B:h'.Ns R.L m)(k:l.b≠R.L->∀o,h.get? l.b=some o->h'.get? l.b=some o)(x:l.okIn h):l.okIn h':=by
 by_cases q:l.b=R.L
 ·induction l using Mine.Loc.casesOn with
  |l d y=>cases(show d=R.L from q);exact⟨m,B⟩
  |c a=>
   cases(show a=R.L from q)
   obtain⟨v,o,C,D⟩:=x;obtain⟨G,H,I,E,A,_⟩:=F;cases C.symm.trans E;cases D.symm.trans A
 ·exact x.at (k q)
def bo.back(I:bo R os en s){Q:Nat->Value->Prop}(C:cU S.g ((R.L,m)::R.O) (R.away ios os) cA Q (jC ios os) args s.heap)(t:ios.Nodup)(hv:wF R s.heap ios vio)(fr:dE (Wr ((R.L,m)::R.O) cA (jC ios os)) s.heap (Wr ((R.L,m)::R.O) cA os') s'.heap)(sm:fb s s')
 (B:cU S.g ((R.L,m)::R.O) (R.away ios os) cA (At (vio++vals)) os' fin s'.heap) (H:cJ ios fin en= .oK en') (nN:∀y∈ios,y<en.length):Back R os s ios os' en' s' m:=by
 obtain⟨p1,p2,M⟩:=jV H;have M:=M t;have hm:=C.n (R.L,m) (.head _);have P7:=B.n (R.L,m) (.head _);have Lk:∀{y},y∈ios->y≠tI:=λh=>I.ne (nN _ h)
 have w2:∀{a},R.W (dW ios os os') a->R.W os a/\R.away ios os a\/Wr ((R.L,m)::R.O) cA os' a:=λ{a} w=>by
  rcases w with⟨p,H,w⟩|w |⟨k,w⟩
  ·exact .inr (.inl ⟨p,.tail _ H,w⟩)
  ·by_cases q:a=R.L
   ·exact .inr (.inl ⟨_,.head _,q.symm⟩)
   ·exact .inl ⟨.inr (.inl w),.inr (.inl ⟨w,q⟩)⟩
  ·rcases uM w with⟨k,w⟩|⟨A,w⟩
   ·exact .inr (.inr (.inr ⟨k,w⟩))
   ·exact .inl ⟨.inr (.inr ⟨_,w⟩),.inr (.inr ⟨_,A,w⟩)⟩
 have st:∀{a o},R.away ios os a->s.heap.get? a=some o->s'.heap.get? a=some o:=λ{a o} x e=>(fr a o (C.b a x).2 e).1;have Lg:∀{i:Nat} {l:Loc},R.cx i=some l->l.b≠R.L->∀o,s.heap.get? l.b=some o->s'.heap.get? l.b=some o:=λ{i l} e q o=>st (.inr (.inl ⟨⟨i,l,e,rfl⟩,q⟩));have kp:ku R s.heap s'.heap:=λi l v e x=>Loc.keep hm P7 (Lg e) x;have c9:(Vw (R.away ios os) (Wr ((R.L,m)::R.O) cA os') s'.heap).le (R.V (dW ios os os') s'.heap):=λa o=>And.elim λx=>And.elim λy e=>⟨λq=>x (.inl q),λw=>(w2 w).elim (λq=>x q.2) y,e⟩
 have b:dE (R.W os) s.heap (R.W (dW ios os os')) s'.heap:=λa o n e=>by
  obtain⟨e',n'⟩:=fr a o (λw=>n (C.t w)) e;exact⟨e',λw=>(w2 w).elim (λq=>n q.1) n'⟩
 refine⟨⟨b,sm,λi J=>kp i⟩,⟨⟨λa o e=>b.c9 a o (I.c.base a o e),λa x=>⟨(B.b a (.inl x)).1,λw=>(w2 w).elim (λq=>(I.c.b a x).2 q.1) (B.b a (.inl x)).2⟩,λp H=>B.n p (.tail _ H),λa x=>⟨?_,(I.c.l a x).2⟩,λj a m=>?_,λj=>?_,λi j a f m D=>?_,λj jt e=>?_,λa m=>B.live (i:=tI) (by rwa[dW,if_pos rfl]at m),λj sv e q=>?_⟩,λi l e=>Loc.e hm P7 (Lg e) (I.oK i l e),I.inj,by rw[p2];exact I.E⟩,c9⟩
 ·by_cases q:a=R.L
  ·rw[q];exact Ns.live P7
  ·exact(B.b a (.inr (.inl ⟨x,q⟩))).1
 ·rcases uM m with⟨k,m⟩|⟨A,m⟩
  ·refine⟨λp H=>(B.e k a m).1 p (.tail _ H),λw=>?_⟩
   by_cases q:a=R.L
   ·exact(B.e k a m).1 _ (.head _) q.symm
   ·exact(B.b a (.inr (.inl ⟨w,q⟩))).2 (.inr (.inr ⟨k,m⟩))
  ·exact I.c.e j a m
 ·unfold dW
  split
  ·exact B.nd _
  ·split
   ·exact B.nd _
   ·exact I.c.nd _
 ·have F0:∀{k j},j∉ios->a∈os' k->a∉os j:=λA m D=>(B.b a (.inr (.inr ⟨_,A,D⟩))).2 (.inr (.inr ⟨_,m⟩))
  have Z:∀{j},j=tI\/j∈ios->f9 (λk=>dW ios os os' j=os' k) (λk=>(j=tI/\k=tI\/j≠tI/\j∈ios/\k=ios.idxOf j)):=λ{j} h=>by
   by_cases q:j=tI
   ·exact⟨tI,if_pos q,.inl ⟨q,rfl⟩⟩
   ·have A:=h.resolve_left q;exact⟨_,(if_neg q).trans (if_pos A),.inr ⟨q,A,rfl⟩⟩
  have X:∀{j},¬(j=tI\/j∈ios)->dW ios os os' j=os j:=λh=>(if_neg λz=>h (.inl z)).trans (if_neg λz=>h (.inr z))
  by_cases F:i=tI\/i∈ios<;>by_cases E:j=tI\/j∈ios
  ·obtain⟨k1,N,d⟩:=Z F;obtain⟨k2,P,Y⟩:=Z E;rw[N]at m;rw[P]at D;refine B.k k1 k2 a (λz=>?_) m D;have G:ios.length<=tI:=az (List.Nodup.length_le_of_subset (l₂:=List.range en.length) t λy hy=>List.mem_range.mpr (nN y hy)) (by rw[List.length_range];exact I.E);rcases d with⟨d,r⟩|⟨d,f1,r⟩<;>rcases Y with⟨Y,u⟩|⟨Y,f2,u⟩
   ·exact f (d.trans Y.symm)
   ·exact absurd (List.idxOf_lt_length_of_mem f2) (eH.mpr (by rw[<-u,<-z,r];exact G))
   ·exact absurd (List.idxOf_lt_length_of_mem f1) (eH.mpr (by rw[<-r,z,u];exact G))
   ·have g1:=iT f1;rw[<-r,z,u,iT f2]at g1;exact f (dG g1).symm
  ·obtain⟨k1,N,_⟩:=Z F;rw[N]at m;rw[X E]at D;exact F0 (λz=>E (.inr z)) m D
  ·obtain⟨k2,P,_⟩:=Z E;rw[P]at D;rw[X F]at m;exact F0 (λz=>F (.inr z)) D m
  ·rw[X F]at m;rw[X E]at D;exact I.c.k i j a f m D
 ·unfold dW;rw[if_neg jt]
  by_cases A:j∈ios
  ·rw[if_pos A];rw[(M j).2 _ (iT A)]at e;exact B.emp _ (λz=>(absurd (List.idxOf_lt_length_of_mem A) (eH.mpr (z▸(az (List.Nodup.length_le_of_subset (l₂:=List.range en.length) t λy hy=>List.mem_range.mpr (nN y hy)) (by rw[List.length_range];exact I.E):ios.length<=tI))))) e
  ·rw[if_neg A];rw[(M j).1 A]at e;exact I.c.emp j jt e
 ·by_cases A:j∈ios
  ·rw[show dW ios os os' j=os' (ios.idxOf j)from(if_neg (Lk A)).trans (if_pos A)];rw[(M j).2 _ (iT A)]at e;refine bB λP0 aC=>?_;obtain⟨v,U,y⟩:=B.slot _ sv e q;obtain⟨lc,v',F,E,q3⟩:=hv _ j (iT A);have U:(vio++vals)[ios.idxOf j]? =some v:=U;rw[lI (aS E),E]at U;cases U;exact aC (⟨v,⟨lc,F,kp j lc v F q3⟩,y.mono c9 λJ J J e=>e⟩)
  ·rw[show dW ios os os' j=os j from(if_neg (λz=>absurd (aS e) (eH.mpr (by rw[p2,z];exact I.E)):j≠tI)).trans (if_neg A)];rw[(M j).1 A]at e;refine bB λP0 aC=>?_;obtain⟨v,⟨l,N,P⟩,y⟩:=I.c.slot j sv e q;exact aC (⟨v,⟨l,N,kp j l v N P⟩,y.mono b.c9 λa ha o e=>st (.inr (.inr ⟨j,A,ha⟩)) e⟩)
end
section
variable {S:cZ}{R:aU S}{os os':aJ}{en en':List SV}{s s':Shared}{ios:List Nat}{ws fin:List SV}{vio vals:List Value}{vs:List AV}{m:Str->Option Value}
def mM.less(a:mM 1 n A l O):mM 0 n A l O:=⟨a.frames,a.a,a.r,a.guards,az (eN _ _) a.depth,az (eN _ _) a.units⟩
def SR(S:cZ)(a:IE)(e:Expr):Prop:=∀(R:aU S) {os:aJ} {en:List SV} {s:Shared},bo R os en s->J R os s (eval e R.ah) (NX S.G S.call a en) (PR R)
def JC{B:Type}(R:aU S)(A:Around)(os:aJ)(s:Shared)(c:Code)(r:aD B)(P:aJ->B->Value->Shared->Prop):Prop:=
 E7 S.g A c s r (λb v s'=>JP R os s P b v s') (XE R (R.W os) s)
def JC.j{B:Type}{f:Value}{vals:List Value}{r:aD B}{P:aJ->B->Value->Shared->Prop}(h:JC R R.A os s (.call f ⟨vals,[]⟩) r P):J R os s (PySem.call f vals []) r P:=by
 induction r using Mine.bf with
 |oK b=>exact wpAny_call h
 |bG=>exact wpAny_call h
 |aA=>exact h
def BJ(I:bo R os en s)(z:∀m,mM 0 S.n A R.l ((R.L,m)::R.O))(E:ios.Nodup)(M:wF R s.heap ios vio)(H:vio.length=ios.length)(N:cm S.g (R.V os s.heap) vals vs):f9 (λm=>s.heap.Ns R.L m) (λm=>E7 S.g A (.call (.ref (S.g.iH f)) ⟨vio++vals,[]⟩) s (e_ S.call f ios vs en) (λb v s'=>JP R os s (PR R) b v s') (XP ((R.L,m)::R.O) R.l S.cB (Wr ((R.L,m)::R.O) cA (jC ios os)) s)):=by
 obtain⟨m,Q⟩:=I.oK R.Li _ R.p;refine⟨m,Q,?_⟩;show E7 S.g A _ s ((cE ios en).i λws=>(S.call f (ws++vs.map .h)).i λr=>(cJ ios r.2 en).i λD=>.oK (r.1,D)) _ _
 induction ht:cE ios en using Mine.bf with
 |bG=>exact absurd ht gB
 |aA=>trivial
 |oK ws=>
  obtain⟨X,Y⟩:=kA ht;have P:∀y∈ios,y<en.length:=λy G=>eK (Y _ y (iT G)) λJ u=>aK u λe J=>aS e;have C:=I.pass E ht M H N Q;have h:=S.co (f:=f) (z m) C (by rw[dc,dc,cz,H,X,N.E]) (by unfold jC;rw[List.getElem?_eq_none (az (List.Nodup.length_le_of_subset (l₂:=List.range en.length) E λy G=>List.mem_range.mpr (P y G)) (by rw[List.length_range];exact I.E):ios.length<=tI)]:jC ios os tI=[]);show E7 S.g A _ s ((S.call f (ws++vs.map .h)).i λr=>(cJ ios r.2 en).i λD=>.oK (r.1,D)) _ _
  induction hc:S.call f (ws++vs.map .h)using Mine.bf with
  |aA=>trivial
  |bG=>rw[hc]at h;exact h
  |oK b=>
   rw[hc]at h;show E7 S.g A _ s ((cJ ios b.2 en).i λD=>.oK (b.1,D)) _ _
   induction hp:cJ ios b.2 en using Mine.bf with
   |bG=>exact absurd hp gv
   |aA=>trivial
   |oK en'=>
    refine codeAny_mono h λr s' q=>?_
    rcases r with e |(v |_ |_ |_)<;>first |exact q.elim |skip
    refine bB λk U=>?_;obtain⟨_,os',j,W,B,y⟩:=q;obtain⟨Z,F,w⟩:=I.back C E M j W B hp P;exact U (⟨_,Z,F,by rw[show dW ios os os' tI=os' tI from if_pos rfl];exact y.mono w λJ J J e=>e⟩)
def EL(I:bo R os en s)(Q:∀m,mM 0 S.n A R.l ((R.L,m)::R.O))(E:ios.Nodup)(D:wF R s.heap ios vio)(C:vio.length=ios.length)(W:cm S.g (R.V os s.heap) vals vs):
 JC R A os s (.call (.ref (S.g.iH f)) ⟨vio++vals,[]⟩) (e_ S.call f ios vs en) (PR R):=by
 obtain⟨m,Z,h⟩:=BJ (f:=f) I Q E D C W;show E7 S.g A _ s _ _ _
 induction hc:e_ S.call f ios vs en using Mine.bf with
 |aA=>trivial
 |oK b=>rw[hc]at h;exact h
 |bG=>
  rw[hc]at h;refine codeAny_mono h λr s' q=>?_;rcases r with e |(v |_ |_ |_)
  ·obtain⟨a,M,U,P,F,Y⟩:=(show XP _ _ _ _ _ _ _ from q);exact .inl ⟨a,M,U,λB G=>P B λb o q=>aK (G b o q) λH X=>⟨H,λw=>X (wG w)⟩,λp N=>F p (.tail _ N),Y⟩
  all_goals exact q
end
section
variable {S:cZ}{R:aU S}{os os':aJ}{en en':List SV}{s s':Shared}{ios:List Nat}{vio vals:List Value}{vs:List AV}
def bo.j(I:bo R os en s):bo R.j os en s:=⟨⟨I.c,I.oK,I.inj,I.E⟩,I.tm⟩
def bo.h(I:bo R.j os en s):bo R os en s:=⟨⟨I.c,I.oK,I.inj,I.E⟩,I.tm⟩
structure Rw(R:aU S)(ios:List Nat)(os:aJ)(b:List AV×List SV)(a:List Value)(s':Shared)(vio vals:List Value):Prop where
 e:a=vio++vals
 hl:vio.length=ios.length
 hv:wF R s'.heap ios vio
 p:Uz R os b vals s'
def yN(V:aT (SA S) es xs)(hs:aT (dn S) ios ns):∀(R:aU S) {os:aJ} {en:List SV} {s:Shared},(∀i,R.kp i=true)->bo R os en s->(∀y∈ios,∃sv,en[y]? =some sv/\sv≠.a)->
 J R os s (spliced (backTo p (starEach (ns++xs) R.ah))) (bu S.G S.call es en) (λos b a s'=> ∃vio vals,Rw R ios os b a s' vio vals):=by
 induction hs with
 |j=>exact λR os en s z I z=>(iY V R I).mono λos b a s'=>And.elim λp z=>⟨[],a,rfl,rfl,λk y e=>absurd (aS e) (Nat.not_lt_zero _),p⟩
 | @u x e ios ns h _ ih=>
  intro R os en s C I F;refine bB λX L=>?_;obtain⟨sv,M,O⟩:=F x (.head _);obtain⟨l,v,B,H,_⟩:=I.slotAt M O;refine L ?_;rw[List.cons_append,aM (by obtain⟨_,_,rfl,_⟩:=h;rfl:bV e=true)];show J R os s (eval e R.ah>>=λv=>(pure [v]:Sem (List Value))>>=λA=>holding A (spliced (backTo p (starEach (ns++xs) R.ah)))>>=λr=>pure (A++r)) _ _;refine J.step (gz h B H ⟨.d,J.step (wpAny_pure ⟨.d,J.then (P:=λos b a s'=>(∃vio vals,Rw R ios os b a s' vio vals)/\l.holds s'.heap v) ?_ λos' b a s' _ ⟨⟨vio,vals,e,U,N,p⟩,Q⟩=>J.here ⟨v::vio,vals,by rw[e];rfl,congrArg Nat.succ U,λk y D=>?_,p⟩⟩)⟩)
  ·refine J.l (Wt.mono (ih R C I λy W=>F y (.tail _ W)) (λb a s'=>JP.a λos' E p=>⟨os',E,p,E.k x (C x) l v B H⟩) λz z x=>x)
  ·induction k using dU with
   |zero=>cases D;exact⟨l,v,B,rfl,Q⟩
   |succ k=>exact N k y D
def EZ(D:aT (SA S) es xs)(hs:aT (dn S) ios ns)(I:bo R os en s)(A:∀y∈ios,∃sv,en[y]? =some sv/\sv≠.a):
 J R os s (spliced (backTo p (starEach (ns++xs) R.ah))) (bu S.G S.call es en) (λos b a s'=>(∃vio vals,Rw R ios os b a s' vio vals)/\ku R s.heap s'.heap):=
 J.keep ((yN D hs R.j (λz=>rfl) I.j A).mono λos b a s' E=>by obtain⟨vio,vals,e,B,C,p,r⟩:=E;exact⟨vio,vals,e,B,C,p.h,r⟩)
def AP(B:aT (SA S) es xs)(hs:aT (dn S) ios ns):(backTo p (starEach (ns++xs) ah)).any (·.1)=false/\(ns++xs=[]\/∃e r,ns++xs=e::r/\bV e=true):=by
 induction hs with
 |j=>exact gL B
 | @u x e ios ns h _ ih=>
  have A:bV e=true:=by obtain⟨_,_,rfl,_⟩:=h;rfl
  exact⟨by rw[List.cons_append,aM A];exact ih.1,.inr ⟨e,ns++xs,rfl,A⟩⟩
def J.n(C:keepIn S.g.K f=true)(A:aT (SA S) es xs)(hs:aT (dn S) ios ns)(I:bo R os en s)(L:∀y∈ios,∃sv,en[y]? =some sv/\sv≠.a)
 (h:∀{os' vio vals ws en' s'},Le R os s os' s'->ku R s.heap s'.heap->bo R os' en' s'->wF R s'.heap ios vio->vio.length=ios.length->cm S.g (R.V os' s'.heap) vals ws->J R os' s' (PySem.call f (first++(vio++vals)) []) (F (ws,en')) P):
  J R os s (callWith p f first (backTo p (starEach (ns++xs) R.ah)) []) ((bu S.G S.call es en).i F) P:=by
  have B:=AP (p:=p) (ah:=R.ah) A hs;refine J.O (K:=λz s'=>S.g.K.In s'.heap) (λN E h=>callWith_of (by rw[B.1];rfl) (keeps_K C) (d5 B.2 h)) (EZ A hs I L) λos' b a s' H ⟨⟨vio,vals,e,M,D,q⟩,kp⟩ _ =>?_;subst e;exact⟨q.1.fH,h H kp q.1 D M q.2⟩
def G'(h:cE ios en= .oK ws):∀y∈ios,∃sv,en[y]? =some sv/\sv≠.a:=λy A=>by obtain⟨sv,a,b,_⟩:=(kA h).2 _ y (iT A);exact⟨sv,a,b⟩
def nO(C:ios.Nodup)(I:bo R os en s)(A:wF R s.heap ios vio)(B:vio.length=ios.length)(r:cm S.g (R.V os s.heap) vals vs):J R os s (PySem.call (.ref (S.g.iH f)) (vio++vals) []) (e_ S.call f ios vs en) (PR R):=
 JC.j (EL I (λm=>(R.ig m).less) C A B r)
def SR.fn(B:dX S nm (.ref (S.g.iH f)))(A:keepIn S.g.K (.ref (S.g.iH f))=true)(E:ios.Nodup)(hs:aT (dn S) ios ns)(F:aT (SA S) es xs):SR S (.K (.fn f) ios es) (.Call (.Name nm np) (ns++xs) [] p):=λR os en s I=>by
 show J R os s (eval (.Name nm np) R.ah>>=λf=>callWith p f [] (backTo p (starEach (ns++xs) R.ah)) []) ((cE ios en).i λz=>(bu S.G S.call es en).i λb=>e_ S.call f ios b.1 b.2) _;exact J.j gB λM L=>J.step (dZ I B ⟨.d,J.n A F hs I (G' L) λ{z vio vals z z z} z z H C D r=>nO (vio:=vio) (vals:=vals) E H C D r⟩)
def oy:c6 (r.i f)=(c6 r).i λx=>c6 (f x):=by cases r<;>rfl
def J.c6(h:J R os s t r P):J R os s t (c6 r) P:=by
 induction r using Mine.bf with
 |oK b=>exact h
 |bG=>trivial
 |aA=>trivial
def Ap(h:(c6 r).i f≠.aA):f9 (λa=>r= .oK a) (λa=>f a≠.aA):=by
 induction r using Mine.bf with
 |oK a=>exact⟨a,rfl,h⟩
 |bG=>exact absurd rfl h
 |aA=>exact absurd rfl h
def J.first{k:Value->Sem Value}{P:aJ->β->Value->Shared->Prop}(N:SE S a x)(I:bo R os en s)(B:∀(D:Value->Shared->Prop) (E:Value->Shared->Prop),wpAny (model S.g.prog S.g.w) R.A (eval x R.ah) (λa s'=>True/\wpAny (model S.g.prog S.g.w) R.A (k a) D E s') E s->wpAny (model S.g.prog S.g.w) R.A t D E s)
 (h:∀{os' v w en' s' c},bo R os' en' s'->cf S.g (R.V os' s'.heap) v w->bu S.G S.call es en'= .oK c->F (w::c.1,c.2)≠.aA->J R os' s' (k v) ((bu S.G S.call es en').i λc=>F (w::c.1,c.2)) P):J R os s t ((Mine.c6 (bu S.G S.call (a::es) en)).i F) P:=by
 rw[(by
  show(Mine.c6 ((ev S.G S.call a en).i λb=>(bu S.G S.call es b.2).i λr=>.oK (b.1::r.1,r.2))).i F=_
  rw[oy,aE]
  congr 1;funext b
  rw[oy,aE];rfl:(Mine.c6 (bu S.G S.call (a::es) en)).i F=(Mine.c6 (ev S.G S.call a en)).i λb=>(Mine.c6 (bu S.G S.call es b.2)).i λc=>F (b.1::c.1,c.2))]
 refine J.O B (N R I).c6 λos' b v s' l L H=>aK L λM r=>⟨trivial,?_⟩;obtain⟨c,C,O⟩:=Ap H;have:=h M r C O;rw[C]at this|-;exact this
def SR.h(O:SE S a x)(C:∀f,keepIn S.g.K (.ref (S.g.iH f))=true)(M:aT (SA S) es xs)(H:∀ah,eval (.Call x xs [] p) ah=eval x ah>>=λf=>callWith p f [] (backTo p (starEach xs ah)) []):SR S (.K .h [] (a::es)) (.Call x xs [] p):=λR os en s I=>by
 rw[H]
 refine J.first (k:=λf=>callWith p f [] (backTo p (starEach xs R.ah)) []) (F:=λb=>lF S.G S.call .h [] b.1 b.2) O I (λP E h=>wpAny_bind (wpAny_mono h (λz z x=>x.2) λz z x=>x)) λ{os' v w en' s' c} A r e B=>?_
 have N:∃f,w= .s (.fn f):=by
  induction w using Mine.AV.casesOn with
  |n k l=>exact absurd rfl B
  |s c=>cases c<;>first |exact⟨_,rfl⟩|exact absurd rfl B
 obtain⟨f,rfl⟩:=N;rw[r.fn];exact J.n (C f) M .j A nofun λ{z vio vals z z z} z z A D L r=>nO (vio:=vio) (vals:=vals) .nil A D L r
def mm(C:dA o=true)(hs:(backTo p (starEach xs ah)).any (·.1)=false)(A:xs.length<29):
 eval (.Call (.Attribute o nm ap) xs [] p) ah=eval o ah>>=λov=>standAt ap.atName>>=λz=>holding [ov] (getMethod ov nm (do return (<-importBound o ah).getD true))>>=λB=>methodCallPos true o ah ap p>>=λD=>callWith D B.1 B.2 (backTo p (starEach xs ah)) []:=by
 rw[arm_eval_Call,cG C];unfold methodCall
 rw[(by
  unfold methodCallForm;rw[Bool.and_eq_true,Bool.and_eq_true];refine⟨⟨?_,rfl⟩,decide_eq_true (Nat.lt_succ_of_lt A)⟩;rw[List.all_eq_not_any_not];simp only[Bool.not_not]
  rw[hs];rfl:methodCallForm (xs.length+([]:List Keyword).length) (backTo p (starEach xs ah)) (backToKw p (keywordEach [] ah))=true)];rfl
def u7(B:(ap.endLine==p.line)=true)(h:Q p s):wpAny M A (methodCallPos true o ah ap p) Q E s:=by
 unfold methodCallPos;rw[B];exact wpAny_pure h
structure Meth(g:Gd)(c:Nat)(nm:Str)(f:Nat):Prop where
 pl:plainGet g.K (g.cls c) nm=true
 hf:findIn g.K (.ref (g.cls c)) nm=some (some (.ref (g.iH f)))
 fn:isFn g.K (.ref (g.iH f))=true
 no:nm∉g.fld c
def yi:∀{es:List DictEntry} {A:List Str},aT (qF g) es A->nm∉A->getL nm es=some none:=by
 intro es A h
 induction h with
 |j=>exact λy=>rfl
 | @u e a es A h _ ih=>
  intro C;obtain⟨⟨t,B⟩,_⟩:=h;have:=ih λm=>C (.tail _ m);unfold getL at this|-
  rw[List.find?_cons_of_neg (by exact(λz=>by
   rw[B]at z
   exact C (beq_iff_eq.mp z▸.head _):¬e.key.isStr nm=true)),List.any_cons,show e.refKey=false by unfold DictEntry.refKey;rw[B],Bool.false_or]
  exact this
def wH(F:g.K.In s.heap)(sh:dz g (gJ s.heap) k v l as)(B:k=c+2)(m:Meth g c nm f)(G:Q (.ref (g.iH f),[v]) s):
 wpAny (model g.prog g.w) A (getMethod v nm I) Q E s:=by
 obtain⟨b,d,C,n,rfl,D,H,B,rfl,_⟩:=(B▸sh).inv2;exact method_fn (ox:=instObj (g.cls c) d) (od:=some (dictOf C n)) F ⟨D,rfl,rfl,H⟩ (plainGet_of m.pl).1 (plainGet_of m.pl).2 m.hf (beq_iff_eq.mp m.fn)
  (by show(lookIn nm (dictOf C n)).map _=_;rw[lookIn_dict,yi B λz=>m.no (List.mem_of_mem_take z)];rfl) G
def SR.P(d:SE S a x)(Z:dA x=true)(C:(ap.endLine==p.line)=true)(B:xs.length<29)(H:aT (SA S) es xs)
 (hm:∀k f,S.G.meths A k=some f->∃c,k=c+2/\Meth S.g c nm f/\keepIn S.g.K (.ref (S.g.iH f))=true):SR S (.K (.P A) [] (a::es)) (.Call (.Attribute x nm ap) xs [] p):=λR os en s I=>by
 rw[mm Z (gL H).1 B]
 refine J.first (k:=λov=>standAt ap.atName>>=λT=>holding [ov] (getMethod ov nm (do return (<-importBound x R.ah).getD true))>>=λD=>methodCallPos true x R.ah ap p>>=λo=>callWith o D.1 D.2 (backTo p (starEach xs R.ah)) []) (F:=λb=>lF S.G S.call (.P A) [] b.1 b.2) d I (λQ' E h=>wpAny_bind (wpAny_mono h (λT T x=>x.2) λT T x=>x)) λ{os' v w en' s' c} L r e N=>?_
 induction hq:(dT w).bind λq=>S.G.meths A q.1 using aF with
 |none=>
  refine absurd ?_ N
  show(aD.d ((dT w).bind λq=>S.G.meths A q.1)).i _=_
  rw[hq];rfl
 |some f=>
  refine bB λP0 M=>?_;refine dg hq λt O u=>?_;obtain⟨k,l⟩:=t;cases eQ O;obtain⟨c0,Q,m,Y⟩:=hm _ _ u;obtain⟨vs,as,sh,rr,b⟩:=r.node;refine M (J.h (J.step (wpAny_holding (wH L.fH (sh.mono λT T T=>Vw.at _ _) Q m ⟨.d,J.step (u7 C ⟨.d,?_⟩)⟩))));refine J.n (ns:=[]) (P:=PR R) (F:=λc=>lF S.G S.call (.P A) [] (.n k l::c.1) c.2) Y H .j L nofun λ{T vio vals V j i} U kp z W C y=>?_;show J _ _ _ _ ((aD.d ((dT (.n k l)).bind λq=>S.G.meths A q.1)).i λf=>e_ S.call f [] (.n k l::V) j) _;rw[hq];have X:vio=[]:=List.length_eq_zero_iff.mp C;subst X;exact nO (vio:=[]) (vals:=v::vals) .nil z W rfl (.u (U.rep r) y)
def SR.sm(F:dn S x e)(C:(ap.endLine==p.line)=true)(A:xs.length<29)(H:aT (SA S) es xs)(m:Meth S.g c nm f)(O:keepIn S.g.K (.ref (S.g.iH f))=true):SR S (.K (.sm c f) [x] es) (.Call (.Attribute e nm ap) xs [] p):=λR os en s I=>by
 rw[mm F.dA (gL H).1 A];show J R os s _ ((if(en[x]?).bind kindS=some (c+2)then cE [x] en else .aA).i λw=>(bu S.G S.call es en).i λb=>e_ S.call f [x] b.1 b.2) _
 by_cases q:(en[x]?).bind kindS=some (c+2)
 ·rw[if_pos q];refine J.j gB λP u=>?_;refine bB λj M=>?_;refine dg q λV N B=>?_;obtain⟨l,v,D,L,y⟩:=I.slotAt N (λz=>by rw[z]at B;cases B)
  have:∃vs E,dz S.g (gJ s.heap) (c+2) v vs E:=by
   induction V using Mine.SV.casesOn with
   |e k l=>
    cases B;obtain⟨o,e⟩:∃o,os x=o:=⟨_,rfl⟩;rw[e]at y
    cases y with
    |e _ sh _ _ =>exact⟨_,_,sh⟩
   |_ =>cases B
  obtain⟨vs,E,sh⟩:=this;refine M (J.step (gz F D L ⟨.d,J.h (J.step (wpAny_holding (wH I.fH sh rfl m ⟨.d,J.step (u7 C ⟨.d,?_⟩)⟩)))⟩));refine J.n (ns:=[]) (ios:=[]) O H .j I nofun λ{w vio vals P Z Y} w kp W X C U=>?_;have Q:vio=[]:=List.length_eq_zero_iff.mp C;subst Q;refine nO (vio:=[v]) (vals:=vals) (List.nodup_cons.mpr ⟨nofun,.nil⟩) W (λk y e=>?_) rfl U
  induction k using dU with
  |zero=>cases e;exact⟨l,v,D,rfl,kp x l v D L⟩
  |succ k=>exact absurd (aS e) (by rw[qa];exact eH.mpr (gY _ _))
 ·rw[if_neg q];trivial
end
section
variable {g:Gd}{O:ie}{X:dJ}{hold:Nat->Value->Prop}{os os':aJ}{en args:List SV}{h h':Heap}{vals:List Value}
noncomputable def dI(i:Nat)(o:List Addr):aJ:=λj=>if j=i then o else []
def fG(h:a∈dI i o j):j=i/\a∈o:=by
 unfold dI at h
 split at h
 ·exact⟨‹_›,h⟩
 ·cases h
def lp:dI i o i=o:=if_pos rfl
def lS(h:j≠i):dI i o j=[]:=if_neg h
def Af(B:∀a∈o,h.get? a=none):(∃A,h.get? a=some A)->Wr O cA (dI 0 o) a->Wr O cA os a:=λC w=>eK C λA e=>by
 rcases w with w |w |⟨j,w⟩
 ·exact .inl w
 ·exact .inr (.inl w)
 ·exact absurd e (bw (B _ (fG w).2))
def cU.u(C:cU g O X cA (At vals) os args h)(z:∀j,os j=[])(k:h.StaysIn h'){o:List Addr}{v:Value}{sv:SV}(I:sv≠.a)(E:∀a∈o,h.get? a=none)(H:∀a∈o,∃A,h'.get? a=some A)(G:o.Nodup)
 (y:ki g (Vw X (Wr O cA (dI 0 o)) h') h' v sv o):cU g O X cA (At (v::vals)) (dI 0 o) (sv::args) h':=by
 have F:∀{a},(∃A,h.get? a=some A)->Wr O cA (dI 0 o) a->Wr O cA os a:=Af E;have D:(Vw X (Wr O cA os) h).le (Vw X (Wr O cA (dI 0 o)) h'):=λa A=>And.elim λx=>And.elim λw e=>⟨x,λq=>w (F ⟨A,e⟩ q),k a A e⟩;refine⟨λa A e=>D a A (C.base a A e),λa x=>⟨by obtain⟨A,e⟩:=(C.b a x).1;exact⟨A,k a A e⟩,λw=>(C.b a x).2 (F (C.b a x).1 w)⟩,λp B=>Ns.at (C.n p B) λo=>k _ o,nofun,λj a m=>⟨λp B e=>?_,id⟩,λj=>?_,λi j a N m L=>N ((fG m).1.trans (fG L).1.symm),λj Q e=>?_,λa m=>?_,λj s e q=>?_⟩
 ·obtain⟨A,P⟩:=Ns.live (C.n p B);exact bw (E a (fG m).2) (e▸P)
 ·by_cases q:j=0
  ·rw[q,lp];exact G
  ·rw[lS q];exact .nil
 ·by_cases q:j=0
  ·subst q;exact(e.elim nofun λe=>I (dG e)).elim
  ·exact lS q
 ·exact H a (fG m).2
 ·induction j using dU with
  |zero=>cases e;exact⟨v,rfl,by rw[lp];exact y⟩
  |succ j=>
   obtain⟨w,M,y⟩:=C.slot j s e q;refine⟨w,M,?_⟩;rw[lS (Nat.succ_ne_zero j),<-z j];exact y.mono D λa m=>absurd m (by rw[z j];exact nofun)
def cU.only(B:cU g O X cA hold os en h)(i):(Vw X (Wr O cA os) h).le (Vw X (Wr O cA (dI tI (os i))) h)/\(∀a,Wr O cA (dI tI (os i)) a->Wr O cA os a)/\cU g O X cA hold' (dI tI (os i)) [] h:=by
 have C:∀a,Wr O cA (dI tI (os i)) a->Wr O cA os a:=λa w=>by
  rcases w with w |w |⟨j,w⟩
  ·exact .inl w
  ·exact .inr (.inl w)
  ·exact .inr (.inr ⟨i,(fG w).2⟩)
 have D:(Vw X (Wr O cA os) h).le (Vw X (Wr O cA (dI tI (os i))) h):=λa A=>And.elim λx=>And.elim λw e=>⟨x,λq=>w (C a q),e⟩;refine⟨D,C,λa A e=>D a A (B.base a A e),λa x=>⟨(B.b a x).1,λw=>(B.b a x).2 (C a w)⟩,B.n,nofun,λj a m=>B.e i a (fG m).2,λj=>?_,λH j a G m F=>G ((fG m).1.trans (fG F).1.symm),λj E e=>lS E,λa m=>B.live (fG m).2,λj s e=>nomatch e⟩
 by_cases q:j=tI
 ·rw[q,lp];exact B.nd i
 ·rw[lS q];exact .nil
end
section
variable {S:cZ}{R:aU S}{os:aJ}{en:List SV}{s:Shared}{vals:List Value}{vs:List AV}
structure Rx(g:Gd)(c f:Nat):Prop where
 Wy:makesIn g.K (g.cls c)=true
 hi:findIn g.K (.ref (g.cls c)) "__init__" =some (some (.ref (g.iH f)))
 hf:typeIn g.K (.ref (g.iH f))=some (.type "function")
 hk:keepIn g.K (.ref (g.cls c))=true
def GC{vs:List Value}(a:mM 1 n A l O):mM 0 n (A.under (.builtin "type.__call__" ⟨.ref C::vs,[]⟩)) l O:=by
 unfold Around.under;rw[(by kernel_rfl:Code.weight (.builtin "type.__call__" ⟨.ref C::vs,[]⟩)=1),(by kernel_rfl:Code.cUnits (.builtin "type.__call__" ⟨.ref C::vs,[]⟩)=1),(by kernel_rfl:Code.envs (.builtin "type.__call__" ⟨.ref C::vs,[]⟩)=[]),(by kernel_rfl:Code.guards (.builtin "type.__call__" ⟨.ref C::vs,[]⟩)=[])];exact⟨a.frames,a.a,a.r,a.guards,az (show A.depth+1+10*n+20+5*0<=A.depth+10*n+20+5*1 from zD (e:=4)) a.depth,az (show A.units+1+40*n+800+20*0<=A.units+40*n+800+20*1 from zD (e:=19)) a.units⟩
def AM{v:SV}(h:oE (v.q.getD (.m 0))=true):v.q=some .r:=by
 induction e:v.q using aF with
 |none=>rw[e]at h;cases h
 |some w=>rw[e]at h;exact congrArg some (xc h)
def Hg{P:aD SV->Prop}(A:P .aA)(h:sv≠.a->P (.oK sv)):P (Ll sv):=by
 rcases sv with _ |_ |_
 ·exact A
 ·exact h nofun
 ·exact h nofun
def Hl{G:jn}{A:Nat->List SV->aD (SV×List SV)}{P:aD SV->Prop}(B:P .aA)(E:A (G.a c) (.e (c+2) []::vs.map .h)= .bG->P .bG)(h1:∀bv sv,A (G.a c) (.e (c+2) []::vs.map .h)= .oK (bv,[sv])->bv.q=some .r->sv≠.a->P (.oK sv)):P (Ar G A c vs):=by
 unfold Ar;rcases e:A (G.a c) (.e (c+2) []::vs.map .h)with⟨bv,D⟩|_ |_
 ·show P (if oE (bv.q.getD (.m 0))then _ else _)
  by_cases C:oE (bv.q.getD (.m 0))=true
  ·rw[if_pos C];rcases D with _ |⟨sv,_ |⟨_,_⟩⟩
   ·exact B
   ·exact Hg B (h1 bv sv e (AM C))
   ·exact B
  ·rw[if_neg C];exact B
 ·exact E e
 ·exact B
def Hk(N:Rx S.g c (S.G.a c))(I:bo R os en s)(i:cm S.g (R.V os s.heap) vals vs):J R os s (PySem.call (.ref (S.g.cls c)) vals []) ((Ar S.G S.call c vs).i λr=>.oK (r,en)) (PR R):=by
 obtain⟨m,hm⟩:=I.oK R.Li _ R.p;have C:=I.pass (ios:=[]) (vio:=[]) .nil (ws:=[]) rfl (λk y e=>absurd (aS e) (Nat.not_lt_zero _)) rfl i hm;obtain⟨D,Z,d,t,o⟩:=s;obtain⟨H,L⟩:∃H,H=(D.push emptyDict).push (instObj (S.g.cls c) D.objs.size):=⟨_,rfl⟩
 have k:D.StaysIn H:=λb o e=>by rw[L];exact Heap.get?_push_of_some _ (Heap.get?_push_of_some _ e)
 have gx:H.get? (D.objs.size+1)=some (instObj (S.g.cls c) D.objs.size):=by rw[L];exact Heap.size_push D emptyDict▸ib (D.push emptyDict) rfl
 have u:H.get? D.objs.size=some emptyDict:=by rw[L];exact Heap.get?_push_of_some _ (ib _ rfl)
 have l:D.get? (D.objs.size+1)=none:=c8 λK e=>absurd (Heap.lt_size e) (eH.mpr (Nat.le_succ _))
 have h:=S.co (s:=⟨H,Z,d,t,o⟩) (f:=S.G.a c) (GC (C:=S.g.cls c) (vs:=vals) (R.ig m)) (C.u (λK=>rfl) (h':=H) (o:=[D.objs.size+1,D.objs.size]) (v:=.ref (D.objs.size+1)) (sv:=.e (c+2) []) k nofun (cu.mpr ⟨l,iE.mpr bJ⟩) (cu.mpr ⟨⟨_,gx⟩,iE.mpr ⟨_,u⟩⟩)
  (List.nodup_cons.mpr ⟨λq=>absurd (dN.mp q) (Nat.succ_ne_self _),List.nodup_cons.mpr ⟨nofun,.nil⟩⟩) (.e (o:=[]) (Nat.succ_ne_zero _) (.obj (es:=[]) gx u .j) .j (da _))) (congrArg Nat.succ (by rw[List.nil_append,List.nil_append,cz,i.E])) (lS (by decide))
 have X:=I.fH;have z:∀a∈[D.objs.size+1,D.objs.size],D.get? a=none:=cu.mpr ⟨l,iE.mpr bJ⟩
 have M:∀{Q:Value->Shared->Prop} {E:Value->Shared->Prop},codeAny (model S.g.prog S.g.w) (R.A.under (.builtin "type.__call__" ⟨.ref (S.g.cls c)::vals,[]⟩)) (.call (.ref (S.g.iH (S.G.a c))) ⟨.ref (D.objs.size+1)::vals,[]⟩) (InitBack (D.objs.size+1) (wants Q E)) ⟨H,Z,d,t,o⟩->
  wpAny (model S.g.prog S.g.w) R.A (PySem.call (.ref (S.g.cls c)) vals []) Q E ⟨D,Z,d,t,o⟩:=λh=>wpAny_call (make_core (makes_of X N.Wy) (looks_findIn X N.hi) (λO=>bind_fn X O N.hf) (.inl rfl) (L▸h))
 refine Hl (P:=λr=>Wt S.g R.A _ _ (r.i λr=>.oK (r,en)) _ _) trivial (λW=>?_) λbv sv W hn hu=>?_
 ·refine M (codeAny_mono (W▸h) λr s' q=>?_);rcases r with e |(v |_ |_ |_)
  ·refine bB λP0 U=>?_;obtain⟨a,a0,x1,x2,x3,x4⟩:=(show XP _ _ _ _ _ _ _ from q);exact U (.inl ⟨a,a0,x1,λB hb=>x2 B λb o e=>aK (hb b o e) λL n=>⟨k b o L,λw=>n (C.t (Af z ⟨o,L⟩ w))⟩,λp hp=>x3 p (.tail _ hp),x4⟩)
  all_goals exact q.elim
 ·refine M (codeAny_mono (W▸h) λr s' q=>?_);rcases r with e |(_ |_ |_ |v)
  case refine_2.ok.ret=>
   obtain⟨_,F,fr,sm,B,y⟩:=q;refine⟨(y.q (V':=gJ s'.heap) Vw.at (λK K K e=>e) hn).r,?_⟩;refine bB λP0 U=>?_;obtain⟨x,hx,y0⟩:=B.slot 0 sv rfl hu;cases hx;obtain⟨kv,w2,B'⟩:=B.only 0 (hold':=At ([]++vals));obtain⟨le,Y,c9⟩:=I.back (os':=dI tI (F 0)) (vio:=[]) C .nil (λk y e=>absurd (aS e) (Nat.not_lt_zero _)) (λa j n e=>aK (fr a j (λw=>n (Af z ⟨j,e⟩ w)) (k a j e)) λe' n'=>⟨e',λw=>n' (w2 a w)⟩) sm B' (en':=en) rfl nofun;exact U (⟨_,le,Y,by rw[show dW [] os (dI tI (F 0)) tI=F 0 from(if_pos rfl).trans lp];exact y0.mono (λa o v=>c9 a o (kv a o v)) λK K K e=>e⟩)
  all_goals exact q.elim
def SR.new(B:dX S nm (.ref (S.g.cls c)))(N:Rx S.g c (S.G.a c))(E:aT (SA S) es xs):SR S (.K (.new c) [] es) (.Call (.Name nm np) xs [] p):=λR os en s I=>by
 show J R os s (eval (.Name nm np) R.ah>>=λf=>callWith p f [] (backTo p (starEach ([]++xs) R.ah)) []) ((cE [] en).i λz=>(bu S.G S.call es en).i λb=>(Ar S.G S.call c b.1).i λr=>.oK (r,b.2)) _;refine J.j gB λH M=>J.step (dZ I B ⟨.d,J.n N.hk E .j I nofun λ{z A vals z z z} z z F L C r=>?_⟩);have D:A=[]:=List.length_eq_zero_iff.mp C;subst D;exact Hk (vals:=vals) N F r
def SE.K(h:SR S (.K ck ios es) e):SE S (.K ck ios es) e:=λR os en s I=>by
 rw[(by
  show((DC ck ios en).i λz=>(E0 ck (bu S.G S.call es en)).i λb=>(lF S.G S.call ck ios b.1 b.2).i λr=>(aD.d r.1.q).i λw=>.oK (w,r.2))=(((DC ck ios en).i λz=>(E0 ck (bu S.G S.call es en)).i λb=>lF S.G S.call ck ios b.1 b.2).i _)
  rw[aE];congr 1;funext x
  rw[aE]:ev S.G S.call (.K ck ios es) en=(NX S.G S.call (.K ck ios es) en).i λr=>(aD.d r.1.q).i λw=>.oK (w,r.2))]
 have A:=h R I
 induction hr:NX S.G S.call (.K ck ios es) en using Mine.bf with
 |aA=>trivial
 |bG=>rw[hr]at A;exact A
 |oK b=>
  rw[hr]at A;show J R os s _ ((aD.d b.1.q).i λw=>.oK (w,b.2)) _
  induction hf:b.1.q using aF with
  |none=>trivial
  |some w=>exact wpAny_mono A (λv E=>JP.a λC l p=>aK (PR.pe (sv:=b.1) p hf) λB D=>⟨_,l.trans D,B⟩) λz z x=>x
def SR.op(h:SO S (.op o es) e):SR S (.op o es) e:=λR z z z I=>J.post (h R I) λz b z z p=>⟨nofun,λc e=>by cases e;exact p⟩
end
structure mI(l:Loc)(h h':Heap)(v:Value):Prop where
 same:∀a,a≠l.b->h'.get? a=h.get? a
 hv:l.holds h' v
 e:∀(l':Loc) v',l'≠l->l'.holds h v'->l'.holds h' v'
 Wf:∀l':Loc,l'.okIn h->l'.okIn h'
def Ns.b{h:Heap}(x:h.Ns a m)(y:h.IsCell a v):False:=by
 obtain⟨o,D,ep,e,A,_⟩:=x;obtain⟨E,C,B⟩:=y;cases e.symm.trans C;cases A.symm.trans B
def mI.l(D:h.Ns d m)(C:h'.Ns d (λy=>if y=x then some v else m y))(e:Heap.SameBut d h h'):mI (.l d x) h h' v:=by
 refine⟨e.2,⟨_,C,if_pos rfl⟩,λB L G A=>?_,λB F=>?_⟩
 ·by_cases q:B.b=d
  ·induction B using Mine.Loc.casesOn with
   |l E y=>
    cases(show E=d from q)
    obtain⟨I,z1,H⟩:=A;cases Ns.inj D z1;exact⟨_,C,(if_neg λz=>G (by rw[z])).trans H⟩
   |c a=>cases(show a=d from q);exact(Ns.b D A).elim
  ·exact A.at λo r=>(e.2 _ q).trans r
 ·by_cases q:B.b=d
  ·induction B using Mine.Loc.casesOn with
   |l E y=>cases(show E=d from q);exact⟨_,C⟩
   |c a=>cases(show a=d from q);obtain⟨v,A⟩:=F;exact(Ns.b D A).elim
  ·exact F.at λo r=>(e.2 _ q).trans r
def mI.c(F:h.IsCell a N)(E:h'.IsCell a (some v))(e:Heap.SameBut a h h'):mI (.c a) h h' v:=by
 refine⟨e.2,E,λA M H D=>?_,λA G=>?_⟩
 ·by_cases q:A.b=a
  ·induction A using Mine.Loc.casesOn with
   |l C y=>cases(show C=a from q);obtain⟨I,z1,L⟩:=D;exact(Ns.b z1 F).elim
   |c B=>cases(show B=a from q);exact absurd rfl H
  ·exact D.at λo r=>(e.2 _ q).trans r
 ·by_cases q:A.b=a
  ·induction A using Mine.Loc.casesOn with
   |l C y=>cases(show C=a from q);obtain⟨I,z1⟩:=G;exact(Ns.b z1 F).elim
   |c B=>cases(show B=a from q);exact⟨_,E⟩
  ·exact G.at λo r=>(e.2 _ q).trans r
def qH(D:ah.scope.kind= .function)(I:ah.kindOf x≠some .free)(L:Ce ah x l)(G:l.okIn s.heap)
 (h:∀h' t,mI l s.heap h' v->Q () {s with heap:=h',toks:=t}):wpAny M A (storeName ah x v) Q E s:=by
 rcases L with⟨B,rfl⟩|⟨B,c,H,rfl⟩
 ·obtain⟨m,C⟩:=G;exact wpAny_storeName_local B C (λh' n e=>h h' _ (.l C n e)) (by show(ah.scope.kind==.class || (ah.scope.kind==.module&&ah.locals !=ah.globals))=false;rw[D];rfl)
 ·obtain⟨N,F⟩:=G;exact wpAny_storeName_cell D (B.resolve_right I) H F λh' n e=>h h' _ (.c F n e)
structure uS{S:cZ}(R:aU S):Prop where
 kp:∀x,S.lo<=x->R.kp x=false
 st:R.st=true
 top:∃outer,R.l=R.ah::outer
 nf:∀x,R.ah.kindOf x≠some .free
 b:R.ah.scope=S.sc
def yQ{S:cZ}(R:aU S)(x:Nat):Prop:=R.kp x=false/\∀A,S.dY.lookup A=some x->R.ah.kindOf A≠some .free
def uS.a{R:aU S}(h:uS R)(A:S.lo<=x):yQ R x:=⟨h.kp x A,λB z=>h.nf B⟩
section
variable {S:cZ}{R:aU S}{os os':aJ}{en en':List SV}{s s':Shared}
structure After(R:aU S)(os:aJ)(s:Shared)(os':aJ)(s':Shared)(o2:List Addr):Prop where
 le:Le R os s os' s'
 tm:os' tI=o2
 keep:∀{w:Value} {sw:SV} {ow:List Addr},(∀a∈ow,a∈os tI)->ki S.g (R.V os s.heap) s.heap w sw ow->ki S.g (R.V os' s'.heap) s'.heap w sw ow
def eO.store(I:eO R os en s)(Z:R.kp x=false)(P:(os tI).Perm (o1++o2))(y:ki S.g (R.V os s.heap) s.heap v sv o1)(C:x<en.length)(D:R.cx x=some l)(st:mI l s.heap h' v):
 ∃os',After R os s os' {s with heap:=h',toks:=t} o2/\eO R os' (en.set x sv) {s with heap:=h',toks:=t}:=by
 have H:=I.ne C;have E:R.pl l.b:=⟨x,l,D,rfl⟩
 have p:sv≠.a:=λe=>by rw[e]at y;cases y
 have N:∀a,R.W (os.f x []) a->R.W os a:=λa w=>by
  rcases w with w |w |⟨j,w⟩
  ·exact .inl w
  ·exact .inr (.inl w)
  ·exact(aJ.c w).elim nofun λq=>.inr (.inr ⟨j,q.2⟩)
 have k:=(I.c.f (v:=v) C H (λa x=>⟨x,nofun⟩) (λa o n e=>⟨e,λw=>n (.inl (N a w))⟩) (λa x=>(I.c.b a x).1) I.c.n (λa x=>(I.c.l a x).1) nofun .nil nofun (λJ J J J J e=>e) (λJ J J h J=>h) (λq=>absurd rfl q) (.inl ⟨rfl,rfl⟩):cU S.g R.O R.X R.pl (λj A=>j≠x->R.hold s.heap j A) (os.f x []) (en.set x .a) s.heap).place E st.same (by obtain⟨o,e⟩:=st.hv.oK.live;exact⟨o,e⟩) (hold':=R.hold h') (λj s' A e q h=>(λj s' A e q=>kE λB=>And.elim λL u=>by
  refine⟨B,L,st.e B A (λz=>?_) u⟩;rcases iL e with⟨_,rfl⟩|⟨n,_⟩
  ·exact q rfl
  ·exact n (I.inj j x l (z▸L) D):∀j s' A,(en.set x .a)[j]? =some s'->s'≠.a->R.hold s.heap j A->R.hold h' j A) j s' A e q (h λz=>by
  subst z;rw[List.getElem?_set_self C]at e
  exact q (dG e).symm))
 have M:dE (R.W os) s.heap (R.W (os.f x [])) h':=λa o n e=>⟨(st.same a λz=>n (.inr (.inl (z▸E)))).trans e,λw=>n (N a w)⟩;have kp:∀{w:Value} {Q:SV} {F:List Addr},(∀a∈F,a∈os tI)->ki S.g (R.V os s.heap) s.heap w Q F->ki S.g (R.V (os.f x []) h') h' w Q F:=λG z=>z.mono M.c9 λa m o e=>(st.same a ((λm e=>(I.c.e _ _ m).2 (e▸E):∀{j a},a∈os j->a≠l.b) (G a m))).trans e;obtain⟨U,Y⟩:=k.take (by rw[(aJ.b (Ne.symm H):(os.f x []) tI=os tI)];exact P) (by rw[eI];exact C) (by rw[eI];exact I.E:(en.set x .a).length<=tI) (List.getElem?_set_self C) p ⟨l,D,st.hv⟩ (kp (λa m=>P.mem_iff.mpr (pq _ m)) y);rw[List.set_set]at Y;refine⟨_,⟨⟨λa o n e=>?_,⟨rfl,rfl⟩,λj q B A e z=>st.e B A (λw=>by cases I.inj j x l (w▸e) D;rw[Z]at q;cases q) z⟩,aJ.d,λG z=>?_⟩,Y,λi B e=>st.Wf B (I.oK i B e),I.inj,by rw[eI];exact I.E⟩
 ·show h'.get? a=some o/\¬Wr R.O R.pl _ a;rw[U];exact M a o n e
 ·show ki S.g (Vw R.X (Wr R.O R.pl _) h') h' _ _ _;rw[U];exact kp G z
end
section
variable {S:cZ}{R:aU S}{os os':aJ}{en en':List SV}{s s':Shared}
def Rz(R:aU S)(os:aJ)(s:Shared)(f:Fl)(fl:Flow):Prop:=match f with
 |.a=>fl= .next/\os tI=[]
 |.cont=>fl= .cont/\os tI=[]
 |.C sv=> ∃v,fl= .ret v/\ki S.g (R.V os s.heap) s.heap v sv (os tI)
def PS(R:aU S):aJ->Fl×List SV->Flow->Shared->Prop:=λos b A s=>eO R os b.2 s/\Rz R os s b.1 A
end
def S1(S:cZ)(a:IS)(b:Stmt):Prop:=∀(R:aU S),uS R->∀{B:aJ} {A:List SV} {s:Shared},bo R B A s->J R B s (exec b R.ah) (eG S.G S.call a A) (PS R)
def SL(S:cZ)(a:List IS)(b:List Stmt):Prop:=∀(R:aU S),uS R->∀{B:aJ} {A:List SV} {s:Shared},bo R B A s->J R B s (execs b R.ah) (aG S.G S.call a A) (PS R)
def y5(S:cZ)(A:Bool)(a:IE)(e:Expr):Prop:=∀(R:aU S) {C:aJ} {B:List SV} {s:Shared},bo R C B s->J R C s (eval e R.ah) (H0 S.G S.call A a B) (PR R)
noncomputable def g6(e:Expr):Bool:= !(Nat.ble 8 e.ctorIdx&&Nat.ble e.ctorIdx 10)
def fv(h:g6 e=true):swapsWith e t line ah=pure false:=by
 cases e<;>first |rfl |cases h
section
variable {S:cZ}{R:aU S}{os os':aJ}{en en':List SV}{s s':Shared}
def y5.e{e:Expr}(h:SE S a e):y5 S false a e:=λR z z z I=>J.post (h R I) λz b z z p=>⟨nofun,λc e=>by cases e;exact PE.pr p⟩
def y5.r{e:Expr}(h:SR S a e):y5 S true a e:=h
def PS.a(I:bo R os en s):PS R os (.a,en) .next s:=⟨I.toeO,rfl,I.tm⟩
def PS.inv(p:PS R os (.a,en) fl s):fl= .next/\bo R os en s:=⟨p.2.1,p.1,p.2.2⟩
def SL.j:SL S [] []:=λz z z z z I=>wpAny_execs_nil ⟨_,.d,.a I⟩
def SL.u{a:IS}{b:Stmt}{as:List IS}{bs:List Stmt}(h:S1 S a b)(hs:SL S as bs):SL S (a::as) (b::bs):=λR B os en s I=>by
 show J R os s (exec b R.ah>>=λf=>match f with |.next=>execs bs R.ah |f=>pure f) ((eG S.G S.call a en).i λx=>match x.1 with |.a=>aG S.G S.call as x.2 |f=>.oK (f,x.2)) _
 refine J.i (h R B I) λH C F L z p=>?_;obtain⟨f,D⟩:=C
 induction f using Mine.Fl.casesOn with
 |a=>obtain⟨rfl,A⟩:=p.inv;exact hs R B A
 |cont=>
  obtain⟨A,rfl,t⟩:=p;exact J.here ⟨A,rfl,t⟩
 |C E=>
  obtain⟨A,v,rfl,y⟩:=p;exact J.here ⟨A,v,rfl,y⟩
def bo.kill(I:bo R os en s)(x):f9 (λos'=>Le R os s os' s) (λos'=>bo R os' (en.set x .a) s):=by
 by_cases A:x<en.length
 ·have B:=I.ne A
  have C:∀a,R.W (os.f x []) a->R.W os a:=λa w=>by
   rcases w with w |w |⟨j,w⟩
   ·exact .inl w
   ·exact .inr (.inl w)
   ·exact(aJ.c w).elim nofun λq=>.inr (.inr ⟨j,q.2⟩)
  have c:cU S.g R.O R.X R.pl (λj v=>j≠x->R.hold s.heap j v) (os.f x []) (en.set x .a) s.heap:=I.c.f (v:=.none) A B (λa x=>⟨x,nofun⟩) (λa o n e=>⟨e,λw=>n (.inl (C a w))⟩) (λa x=>(I.c.b a x).1) I.c.n (λa x=>(I.c.l a x).1) nofun .nil nofun (λu u u u u e=>e) (λu u u h u=>h) (λq=>absurd rfl q) (.inl ⟨rfl,rfl⟩);refine⟨os.f x [],⟨λa o n e=>⟨e,λw=>n (C a w)⟩,.d _,λu u u u u h=>h⟩,⟨⟨c.base,c.b,c.n,c.l,c.e,c.nd,c.k,c.emp,c.q,λj s e q=>?_⟩,I.oK,I.inj,by rw[eI];exact I.E⟩,by rw[aJ.b (Ne.symm B)];exact I.tm⟩;obtain⟨v,D,y⟩:=c.slot j s e q;exact⟨v,D (λz=>by subst z;rw[List.getElem?_set_self A]at e;exact q (dG e).symm),y⟩
 ·exact⟨os,.d,by rw[List.set_eq_of_length_le (eH.mp A)];exact I⟩
theorem bo.b:∀(xs:List Nat) {os:aJ} {en:List SV},bo R os en s->f9 (λos'=>Le R os s os' s) (λos'=>bo R os' (gA xs en) s)
 |[],_,_,I=>⟨_,.d,I⟩
 |x::xs,_,_,I=>by obtain⟨_,E,B⟩:=I.kill x;exact by obtain⟨C,A,D⟩:=bo.b xs B;exact⟨C,E.trans A,D⟩
def J.more(l:Le R os s os' s')(h:J R os' s' t r P):Wt S.g R.A t s' r (λb v B=>JP R os s P b v B) (XE R (R.W os) s):=J.from l h
def SL.a(hs:SL S as bs):SL S (.a xs::as) bs:=λR A os en s I=>by
 obtain⟨os',l,B⟩:=I.b xs;exact J.more l (hs R A B)
def S1.cont:S1 S .cont (.Continue p):=λz z z z z I=>wpAny_Continue ⟨_,.d,I.toeO,rfl,I.tm⟩
def S1.C(h:y5 S own a x):S1 S (.C own a) (.Return (some x) p):=λR z os en s I=>
 J.m (K:=λv A s'=>A (.ret v) s') (f:=λb:SV×List SV=>.oK (Fl.C b.1,b.2)) (λA E h=>wpAny_Return_some h) (h R I) (λz=>nofun) λos' b v s' d l p e=>by
  cases e;exact⟨os',l,p.1,v,rfl,p.2⟩
def S1.ex(h:SE S a x)(B:g6 x=true):S1 S (.ex a) (.Expr x p):=λR z os en s I=>
 J.m (K:=λv A s'=>A .next s') (f:=λb:AV×List SV=>.oK (Fl.a,b.2)) (λA E h=>wpAny_Expr_any h (by unfold interactive;rw[R.f];rfl) (fv B)) (h R I) (λz=>nofun) λos' b v s' d l p e=>by
  cases e;exact⟨os',l,.a p.1⟩
def S1.d(C:SB S t x)(D:SL S b y)(E:SL S c z):S1 S (.d t b c) (.If x y z p):=λR B os en s I=>by
 show J R os s (PySem.standAt p>>=λq=>isTrue x R.ah (eval x R.ah)>>=λb=>if b then execs y R.ah else execs z R.ah) ((ev S.G S.call t en).i λx=>(c_ x.1).i λd=>_) _;rw[pj (f:=λd=>if d.1 then aG S.G S.call b d.2 else aG S.G S.call c d.2)];refine J.h (J.b (C R I) λ{q d q q} q A=>?_)
 induction d using aR
 ·exact E R B A
 ·exact D R B A
def kY(I:eO R os en s)(D:yQ R x)(B:S.dY.lookup nm=some x)(H:(os tI).Perm (o1++o2))(y:ki S.g (R.V os s.heap) s.heap v sv o1)(M:x<en.length)
 (h:∀os' s',After R os s os' s' o2->eO R os' (en.set x sv) s'->Q () s'):wpAny (model S.g.prog S.g.w) R.A (storeName R.ah nm v) Q E s:=by
 obtain⟨l,C,G⟩:=R.v _ _ B;refine qH R.f (D.2 nm B) G (I.oK x l C) λN t F=>?_;obtain⟨os',a,L⟩:=I.store D.1 H y M C F (t:=t);exact h _ _ a L
def S1.h(h:y5 S own a e)(F:∀ah:Env,ah.scope=S.sc->swapsWith e (some (.Name nm np)) p.line ah=pure false)(G:S.dY.lookup nm=some x)(L:S.lo<=x):S1 S (.h x own a) (.Assign [.Name nm np] e p):=λR B os en s I=>by
 refine J.m (K:=λv D s'=>∀E:Value->Shared->Prop,wpAny (model S.g.prog S.g.w) R.A (storeName R.ah nm v) (λz=>D .next) E s') (f:=λb:SV×List SV=>(aV b.2 x b.1).i λah=>.oK (Fl.a,ah)) (λD E h=>wpAny_Assign_Name (wpAny_mono h (λz z q=>q E) λz z e=>e) (F R.ah B.b)) (h R I) (λb=>?_) λos' b v s' d l p e E=>?_
 ·induction q:aV b.2 x b.1 using Mine.bf with
  |bG=>exact absurd q iK
  |_ =>exact nofun
 ·induction q:aV b.2 x b.1 using Mine.bf with
  |bG=>exact absurd q iK
  |aA=>rw[q]at e;cases e
  |oK en'=>
   rw[q]at e;cases e;obtain⟨N,rfl⟩:=kD q;exact kY p.1 (B.a L) G (o2:=[]) (by rw[List.append_nil]) p.2 N λH O C M=>⟨H,l.trans C.le,.a ⟨M,C.tm⟩⟩
end
def sR{vs:Array Value}:(vs.setIfInBounds j a).toList=vs.toList.set j a:=by simp
def qk{vs:Array Value}:(vs.push a).toList=vs.toList++[a]:=by simp
section
variable {S:cZ}{R:aU S}{os os':aJ}{en en':List SV}{s s':Shared}
def UA(S:cZ)(x:Nat)(p:mJ)(i:IE)(t:Expr):Prop:=∀(R:aU S) {os:aJ} {en:List SV} {s:Shared} {w:AV} {a:Value},bo R os en s->cf S.g (R.V os s.heap) a w->J R os s (assign t R.ah a) (kc S.G S.call x p i w en) (λos' en' z s'=>bo R os' en' s')
def jR{h:Heap}:∀a o,a≠b->h.get? a=some o->(h.update b f).get? a=some o:=λz z A e=>Heap.get?_update_of_ne _ (Ne.symm A) e
def UA.of{x:Nat}(u:i4 S x p pe)(hi:jP S p i y):UA S x p i (.Subscript pe y pos):=λR os en s w a I Y=>by
 rw[assign_Subscript];refine J.j cQ λr0 h0=>?_;obtain⟨l,v,b,L,n,D,B,pv,_,_,_,_,_⟩:=I.list (cM h0);refine J.step (wpAny_holding (il I u D B pv rfl λt=>⟨.tok,?_⟩));refine J.i (J.l (hi R I.tok)) λfq c vi A W z=>aK z λX f=>aK X λd H=>J.h ?_;refine J.j tR λk M=>J.j cQ λr O=>J.j cQ λj N=>?_;rw[tQ M]at H;obtain⟨t,rfl⟩:=H.m;obtain⟨U,V,b',pZ,g,m,P,o,q,C,F,lt,e⟩:=d.list (cM O);cases f ⟨l,v,D,B,pv⟩ ⟨U,V,m,P,o⟩;obtain⟨E,rfl,G⟩:=hU (cM N)
 have hB:dF<2^63:=by decide
 refine wpAny_bind (wpAny_holding (ki_setAt (s:=A) q E (N9 G F) (R4 E G (bX C)) (wpAny_release' ?_)));obtain⟨Q,_,Z⟩:=e (t:=A.toks) jR (PySem.IsL.update (h:=A.heap) (l:=b) (items:=pZ) (n:=g) q (·.setIfInBounds k.toNat a)) (r':=r.set k.toNat w) (by rw[sR];exact C.set (W.rep Y) _) (by rw[eI];exact F);exact⟨_,Q,Z⟩
def S1.set(D:UA S x p i (.Subscript pe y tp))(F:SE S e v)(E:g6 v=true):S1 S (.set x p i e) (.Assign [.Subscript pe y tp] v pos):=λR M os en s I=>by
 rw[exec_Assign_Subscript _ _ _ _ _ (fv E)];exact J.h (J.e (F R I) λz B A=>J.i (D R B A) λH G z L z C=>J.here (.a C))
def J.Y{K:α->(D->Shared->Prop)->Shared->Prop}{B:aJ->L->D->Shared->Prop}
 (imp:∀(F:D->Shared->Prop) (E:Value->Shared->Prop),(∀u,wpAny (model S.g.prog S.g.w) R.A t (λa s'=>K a F s') E {s with toks:=u})->wpAny (model S.g.prog S.g.w) R.A C F E s)
 (h:∀u,J R os {s with toks:=u} t r P) (G:∀b,f b≠.bG) (H:∀os' b v s' d,Le R os s os' s'->P os' b v s'->f b= .oK d->K v (λc I=>JP R os s B d c I) s'):J R os s C (r.i f) B:=by
 induction r using Mine.bf with
 |oK b=>
  show Wt S.g R.A C s (f b) _ _
  induction e:f b using Mine.bf with
  |oK d=>exact imp _ _ λu=>wpAny_mono (h u) (λv s'=>JP.a λos' l p=>H os' b v s' d ⟨l.f,l.m,l.k⟩ p e) λz z x=>x
  |bG=>exact absurd e (G b)
  |aA=>trivial
 |bG=>exact imp _ _ λu=>wpAny_mono (h u) (λz z x=>x.elim) λz z x=>XE.from (s₀:=s) (s:={s with toks:=u}) (.d _ _) ⟨rfl,rfl⟩ x
 |aA=>trivial
def uP(H:ah.scope.kind= .function)(G:dA pe=true)(C:bV arg=true)(I:(ap.endLine==M.line)=true)(B:s.heap.get? b=some (listOf arr n))
 (L:∀{Q:Value->Shared->Prop},(∀u,Q (.ref b) {s with toks:=u})->wpAny (model prog w) A (eval pe ah) Q E s)
 (h:∀u,wpAny (model prog w) A (eval arg ah) (λv s'=> ∃items m,items.size<=sizeLine/\PySem.IsL s'.heap b items m/\D .next {s' with heap:=s'.heap.update b (Obj.mapSeq λxs=>xs.push v)}) E {s with toks:=u}):
 wpAny (model prog w) A (exec (.Expr (.Call (.Attribute pe "append" ap) [arg] [] M) pos) ah) D E s:=by
 refine wpAny_Expr_any (wpAny_Call_method (cG G) (by rw[aM C];rfl) I PySem.F.plainAttrs_list slot_list_append type_list_append (L λu=>⟨(aQ B).typeIs,λa e=>by cases e;exact⟨_,B,rfl⟩,?_⟩)) (by unfold interactive;rw[H];rfl) rfl;rw[aM C];exact PySem.P.append_list (h u)
def E1(x:Nat)(p:mJ)(b:AV×List SV):aD (Fl×List SV):=(aD.d (eY b.2 x p)).i λl=>if l.length<10000 then .oK (.a,iN b.2 x p (l++[b.1]))else .aA
def xM:E1 x p c= .aA\/∃r,eY c.2 x p=some r/\r.length<10000/\E1 x p c= .oK (.a,iN c.2 x p (r++[c.1])):=by
 unfold E1
 induction hg:eY c.2 x p using aF with
 |none=>exact .inl rfl
 |some r=>
  by_cases q:r.length<10000
  ·exact .inr ⟨r,rfl,q,if_pos q⟩
  ·exact .inl (if_neg q)
def S1.I{x:Nat}{p:mJ}(hp:i4 S x p pe)(k:dA pe=true)(hi:jP S p e arg)(X:bV arg=true)(hl:(ap.endLine==cp.line)=true):S1 S (.I x p e) (.Expr (.Call (.Attribute pe "append" ap) [arg] [] cp) pos):=λR hR os en s I=>by
 refine J.j cQ λr0 h0=>?_;obtain⟨l,v,b,V,n,H,D,pv,o,_,_,_,_⟩:=I.list (cM h0)
 refine J.Y (f:=E1 x p) (P:=λos' c v s'=>PE R os' c v s'/\∀{y w O},fV R s.heap y p w->fV R s'.heap y p O->O=w) (K:=λv L s'=> ∃A m,A.size<=sizeLine/\PySem.IsL s'.heap b A m/\L .next {s' with heap:=s'.heap.update b (Obj.mapSeq λW=>W.push v)}) (λL E h=>uP R.f k X hl o (λhq=>il I hp H D pv rfl hq) h)
  (λu=>hi R I.tok) (λc q=>?_) λdw c j F d le dO e=>aK dO λka GJ=>aK ka λa i=>?_
 ·rcases xM (x:=x) (p:=p) (c:=c)with e |⟨r,_,_,e⟩<;>rw[e]at q<;>cases q
 ·rcases xM (x:=x) (p:=p) (c:=c)with C |⟨r,Y,B,C⟩
  ·rw[C]at e;cases e
  ·rw[C]at e;refine bB λP0 U=>?_;cases e;obtain⟨g,v',b',N,M,Z,WZ,Q,q,G,bd,lt,up⟩:=a.list Y;cases GJ ⟨l,v,H,D,pv⟩ ⟨g,v',Z,WZ,Q⟩;obtain⟨z,_,I3⟩:=up (t:=F.toks) jR (PySem.IsL.update (h:=F.heap) (l:=b) (items:=N) (n:=M) q (·.push j)) (r':=r++[c.1]) (by rw[qk];exact G.I (.u i .j)) (by rw[dc];exact az (Nat.succ_le_of_lt B) (show 10000<=dF by decide));exact U (⟨N,M,az (zE (fj B) (bX G)) (by decide:(10000:Nat)<=sizeLine),q,_,le.trans z,.a I3⟩)
end
def dk.b(r:cf g V v a){os:List Addr}(x:dk g V h vs l os):∀k,∃os',dk g V h (vs.set k v) (l.set k (.v a)) os'/\os'.Sublist os:=by
 induction x with
 |j=>exact λk=>⟨[],.j,.refl _⟩
 | @u w vs s l o1 o2 x t ih=>
  intro k
  induction k using dU with
  |zero=>exact⟨[]++o2,.u (.v r) t,List.sublist_append_right ..⟩
  |succ k=>
   obtain⟨A,B,C⟩:=ih k;exact⟨o1++A,.u x B,List.Sublist.append_left C _⟩
section
variable {S:cZ}{R:aU S}{os os':aJ}{en en':List SV}{s s':Shared}
inductive Nj(R:aU S)(os:aJ)(en:List SV)(s:Shared)(x k:Nat)(a:Value)(w:AV):Prop
 |mk (l:Loc) (b:Addr) (arr:Array Value) (n:Nat) (hl:R.cx x=some l) (hv:l.holds s.heap (.ref b)) (q:s.heap.get? b=some (listOf arr n)) (lt:k<arr.size) (bd:arr.size<=dF)
  (up:∀t,∃os',Le R os s os' {s with heap:=s.heap.update b (Obj.mapSeq (·.setIfInBounds k a)),toks:=t}/\bo R os' (en.set x (((en[x]?).getD .a).iN (some (1,k)) (.v w))) {s with heap:=s.heap.update b (Obj.mapSeq (·.setIfInBounds k a)),toks:=t})
def bo.f(I:bo R os en s)(hR:uS R)(h:pQ en x (some (1,k))=some sf)(ra:cf S.g (R.V os s.heap) a w):Nj R os en s x k a w:=by
 refine dg h λsv Q H=>?_
 induction sv using Mine.SV.casesOn with
 |a=>cases H
 |f _ =>cases H
 |e k0 l0=>
  refine bB λP0 G=>?_;refine lr (show(if k0=1 then l0[k]? else none)=some sf from H) λkR H=>?_;obtain rfl:=kR;obtain⟨l,v,Y,h2,y⟩:=I.slotAt Q nofun;obtain⟨r,Z⟩:∃r,os x=r:=⟨_,rfl⟩;have lt:=aS Q;have xt:=I.ne lt;have N:=I.c.nd x;rw[Z]at y N;refine G ?_
  cases y with
  | @e _ _ vs as _ o hk sh y bd=>
   obtain⟨b,E,n,rfl,q,rfl,rfl⟩:=sh.b;have A:=y.E;rw[mF]at A
   have L:b∈os x:=by rw[Z];exact .head _
   refine⟨l,b,E,n,Y,h2,q,A▸aS H,A▸bd,λt=>?_⟩;rw[Q];refine bB λP0 G=>?_;obtain⟨C,O⟩:∃C,C=s.heap.update b (Obj.mapSeq (·.setIfInBounds k a)):=⟨_,rfl⟩;obtain⟨n',up⟩:∃n',C.get? b=some (listOf (E.setIfInBounds k a) n'):=⟨_,O▸PySem.IsL.update (h:=s.heap) (l:=b) (items:=E) (n:=n) q (·.setIfInBounds k a)⟩;have D:∀c o,c≠b->s.heap.get? c=some o->C.get? c=some o:=O▸jR;refine G ?_;rw[<-O];refine bB λP0 G=>?_;obtain⟨M,y1,P⟩:=y.b ra k
   have B:∀c,c∈[b]++M->c∈os x:=λc m=>by rw[Z];exact(gM.mp m).elim (pq _) λm=>iI _ (P.subset m)
   have nb:∀c,¬R.W os c->c≠b:=λc n e=>n (.inr (.inr ⟨x,e▸L⟩));have U:∀c,R.pl c->c≠b:=λc z e=>(I.c.e x b L).2 (e▸z);have kp:ku R s.heap C:=λi F v' e z=>z.at λo=>D _ o (U _ ⟨i,F,e,rfl⟩)
   have u:dE (R.W os) s.heap (R.W (os.f x ([b]++M))) C:=λc o n e=>⟨D c o (nb c n) e,λw=>n ((λc w=>by
    rcases w with w |w |⟨j,w⟩
    ·exact .inl w
    ·exact .inr (.inl w)
    ·exact(aJ.c w).elim (λm=>.inr (.inr ⟨x,B c m.2⟩)) λm=>.inr (.inr ⟨j,m.2⟩):∀c,R.W (os.f x ([b]++M)) c->R.W os c) c w)⟩
   refine G ?_
   exact⟨_,⟨u,⟨rfl,rfl⟩,λi J=>kp i⟩,⟨(I.c.f (h':=C) (hold':=R.hold C) (X':=R.X) (sv:=.e 1 (l0.set k (.v w))) (o':=[b]++M) (v:=.ref b) lt xt (λc z=>⟨z,λm=>(I.c.b c z).2 (.inr (.inr ⟨x,B c m⟩))⟩)
    (λc o n e=>u c o (λw=>n (.inl w)) e) (λc z=>let⟨o,e⟩:=(I.c.b c z).1;⟨o,D c o ((λc z=>nb c (I.c.b c z).2:∀c,R.X c->c≠b) c z) e⟩) (λp d=>Ns.at (I.c.n p d) λo=>D _ o λe=>(I.c.e x b L).1 p d e) (λc z=>let⟨o,e⟩:=(I.c.l c z).1;⟨o,D c o (U c z) e⟩)
    (λc m=>I.c.e x c (B c m)) (N.sublist (List.Sublist.append_left P _)) (λj c q m=>I.c.k x j c (Ne.symm q) (B c m)) (λj c o q m=>D c o λe=>I.c.k j x b q (e▸m) L) (λj w' J=>kE λF=>And.elim λe' z=>⟨F,e',kp j F w' e' z⟩) ⟨l,Y,kp x l _ Y h2⟩
    (.inr ⟨nofun,λV' m J=>.e hk (.aj up) (by
     rw[sR]
     exact y1.mono m λc mc o e=>D c o (λz=>(List.nodup_append.mp N).2.2 b (.head _) c (P.subset mc) z.symm) e) (by rw[eI];exact bd)⟩)),λi F e=>(I.oK i F e).at λo=>D _ o (U _ ⟨i,F,e,rfl⟩),I.inj,by rw[eI];exact I.E⟩,by rw[aJ.b (Ne.symm xt)];exact I.tm⟩
def S1.G{x j:Nat}(E:dn S x b)(W:i=(j:Int))(U:SE S e v)(C:g6 v=true):S1 S (.G x j e) (.Assign [.Subscript b (.Constant (.int i) u kp) tp] v pos):=λR P os en s I=>by
 rw[exec_Assign_Subscript _ _ _ _ _ (fv C)];refine J.h (J.e (U R I) λ{Y a w y M} Z H G=>J.j cQ λsf F=>?_);obtain⟨l,b,B,n,O,D,q,A,Q,V⟩:=H.f P (cM F) G
 have z:dF<2^63:=by decide
 subst W;rw[assign_Subscript];refine wpAny_bind (wpAny_bind (wpAny_holding (gz E O D (wpAny_bind (wpAny_holding (wpAny_Constant_int (wpAny_bind (wpAny_standAt (wpAny_bind (wpAny_holding ?_))))))))));refine ki_setAt (k:=(j:Int)) (s:={M with toks:=_}) q (Int.natCast_nonneg j) (N_ A Q) (Int.ofNat_lt.mpr A) (wpAny_release' (wpAny_pure ?_));obtain⟨N,L,X⟩:=V _;exact⟨N,L,.a X⟩
end
inductive gu(g:Gd)(V:cR)(h:Heap):List Value->List SV->List Addr->Prop
 |j:gu g V h [] [] []
 |u {v vs s l o1 o2} (x:ki g V h v s o1) (t:gu g V h vs l o2):gu g V h (v::vs) (s::l) (o1++o2)
section
variable {g:Gd}{V V':cR}{h h':Heap}
def gu.mono{os:List Addr}(m:V.le V')(x:gu g V h vs l os):gN os h h'->gu g V' h' vs l os:=by
 induction x with
 |j=>exact λz=>.j
 |u x _ A=>exact λe=>.u (x.mono m e.left) (A e.right)
def gu.E{os:List Addr}(x:gu g V h vs l os):vs.length=l.length:=by
 induction x with
 |j=>rfl
 |u _ _ A=>exact congrArg Nat.succ A
def gu.snoc{os:List Addr}(x:gu g V h vs l os)(y:ki g V h v s o):∃o',gu g V h (vs++[v]) (l++[s]) o'/\o'.Perm (os++o):=by
 induction x with
 |j=>exact⟨o++[],.u y .j,by rw[List.append_nil];exact .refl _⟩
 | @u w vs s' l o1 o2 x t ih=>
  obtain⟨o',A,B⟩:=ih;exact⟨o1++o',.u x A,by rw[iC];exact B.append_left o1⟩
def gu.rev{os:List Addr}(x:gu g V h vs l os):∃o',gu g V h vs.reverse l.reverse o'/\o'.Perm os:=by
 induction x with
 |j=>exact⟨[],.j,.refl _⟩
 | @u w vs s l o1 o2 x t ih=>
  obtain⟨o',B,D⟩:=ih;obtain⟨A,z1,C⟩:=B.snoc x;rw[List.reverse_cons,List.reverse_cons];exact⟨A,z1,C.trans ((D.append_right o1).trans List.perm_append_comm)⟩
def gu.vals(r:cm g V vs l):gu g V h vs (l.map .h) []:=by
 induction r with
 |j=>exact .j
 |u h _ A=>exact .u (o1:=[]) (.f (.v h)) A
end
def aT.snoc{l:List α}{r:List β}(h:aT R l r)(x:R a b):aT R (l++[a]) (r++[b]):=h.I (.u x .j)
def aT.rev{l:List α}{r:List β}(h:aT R l r):aT R l.reverse r.reverse:=by
 induction h with
 |j=>exact .j
 |u h _ A=>rw[List.reverse_cons,List.reverse_cons];exact A.snoc h
def Cc(X:dJ)(o:List Addr):dJ:=λa=>X a\/a∈o
section
variable {S:cZ}{R:aU S}{os dw fq:aJ}{en wc:List SV}{s s1 s2:Shared}
noncomputable abbrev aU.plus(R:aU S)(o:List Addr):aU S:={R with X:=Cc R.X o}
def nI(w:R.W (os.f tI []) a):R.W os a:=by
 rcases w with w |w |⟨j,w⟩
 ·exact .inl w
 ·exact .inr (.inl w)
 ·exact(aJ.c w).elim nofun λq=>.inr (.inr ⟨j,q.2⟩)
def eO.M(I:eO R os en s):bo (R.plus (os tI)) (os.f tI []) en s/\(R.V os s.heap).le ((R.plus (os tI)).V (os.f tI []) s.heap):=by
 have B:(R.V os s.heap).le ((R.plus (os tI)).V (os.f tI []) s.heap):=λa o=>And.elim λx=>And.elim λy e=>⟨λq=>q.elim x λm=>y (.inr (.inr ⟨_,m⟩)),λw=>y (nI w),e⟩;have A:∀{j a},a∈(os.f tI []) j->j≠tI/\a∈os j:=λm=>(aJ.c m).elim nofun id;refine⟨⟨⟨⟨λa o e=>B a o (I.c.base a o e),λa x=>?_,I.c.n,I.c.l,λj a m=>I.c.e j a (A m).2,λj=>?_,λi j a G m E=>I.c.k i j a G (A m).2 (A E).2,λj C e=>by rw[aJ.b C];exact I.c.emp j C e,λa m=>absurd m (by rw[aJ.d];exact nofun),λj F e q=>?_⟩,I.oK,I.inj,I.E⟩,aJ.d⟩,B⟩
 ·rcases x with x |m
  ·exact⟨(I.c.b a x).1,λw=>(I.c.b a x).2 (nI w)⟩
  ·refine⟨I.c.q a m,λw=>?_⟩;rcases w with⟨p,D,w⟩|w |⟨j,w⟩
   ·exact(I.c.e _ a m).1 p D w
   ·exact(I.c.e _ a m).2 w
   ·exact I.c.k _ _ a (A w).1 (A w).2 m
 ·by_cases q:j=tI
  ·rw[q,aJ.d];exact .nil
  ·rw[aJ.b q];exact I.c.nd j
 ·obtain⟨w,x,y⟩:=I.c.slot j F e q;rw[aJ.b (show j≠tI from λz=>absurd (aS e) (eH.mpr (by rw[z];exact I.E)))];exact⟨w,x,y.mono B λu u u e=>e⟩
def eO.a(I:eO R os en s)(l:Le (R.plus (os tI)) (os.f tI []) s fq s2)(A:eO (R.plus (os tI)) fq wc s2):A3 (Le R os s (fq.f tI (os tI++fq tI)) s2) (eO R (fq.f tI (os tI++fq tI)) wc s2) (((R.plus (os tI)).V fq s2.heap).le (R.V (fq.f tI (os tI++fq tI)) s2.heap)):=by
 have G:∀a,R.W (fq.f tI (os tI++fq tI)) a->R.W fq a\/a∈os tI:=λa w=>by
  rcases w with w |w |⟨j,w⟩
  ·exact .inl (.inl w)
  ·exact .inl (.inr (.inl w))
  ·rcases aJ.c w with⟨_,w⟩|⟨_,w⟩
   ·exact(gM.mp w).elim .inr λm=>.inl (.inr (.inr ⟨_,m⟩))
   ·exact .inl (.inr (.inr ⟨j,w⟩))
 have E:((R.plus (os tI)).V fq s2.heap).le (R.V (fq.f tI (os tI++fq tI)) s2.heap):=λa o=>And.elim λx=>And.elim λy e=>⟨λq=>x (.inl q),λw=>(G a w).elim y λm=>x (.inr m),e⟩;have D:∀{a},a∈os tI->¬R.W fq a:=λm=>(A.c.b _ (.inr m)).2;refine⟨⟨λa o n e=>?_,l.m,l.k⟩,⟨⟨λa o e=>E a o (A.c.base a o e),λa x=>⟨(A.c.b a (.inl x)).1,λw=>(G a w).elim (A.c.b a (.inl x)).2 λm=>(I.c.b a x).2 (.inr (.inr ⟨_,m⟩))⟩,A.c.n,A.c.l,λj a m=>?_,λj=>?_,λi j a L m B=>?_,λj H e=>by rw[aJ.b H];exact A.c.emp j H e,λa m=>?_,λj P e q=>?_⟩,A.oK,A.inj,A.E⟩,E⟩
 ·obtain⟨N,Q⟩:=l.f a o (λw=>n (nI w)) e;exact⟨N,λw=>(G a w).elim Q λm=>n (.inr (.inr ⟨_,m⟩))⟩
 ·rcases aJ.c m with⟨_,m⟩|⟨_,m⟩
  ·rcases gM.mp m with m |m
   ·exact⟨λp O e=>D m (.inl ⟨p,O,e⟩),λw=>D m (.inr (.inl w))⟩
   ·exact A.c.e _ a m
  ·exact A.c.e _ a m
 ·by_cases q:j=tI
  ·rw[q,aJ.d];exact List.nodup_append.mpr ⟨I.c.nd _,A.c.nd _,λa m b B e=>D m (.inr (.inr ⟨_,e▸B⟩))⟩
  ·rw[aJ.b q];exact A.c.nd j
 ·have C:∀{k},k≠tI->a∈os tI++fq tI->a∉fq k:=λM m B=>(gM.mp m).elim (λm=>D m (.inr (.inr ⟨_,B⟩))) λm=>A.c.k _ _ a (Ne.symm M) m B;rcases aJ.c m with⟨q,m⟩|⟨q,m⟩<;>rcases aJ.c B with⟨F,B⟩|⟨F,B⟩
  ·exact L (q.trans F.symm)
  ·exact C F m B
  ·exact C q B m
  ·exact A.c.k i j a L m B
 ·rw[aJ.d]at m;exact(gM.mp m).elim (λm=>(A.c.b a (.inr m)).1) (A.c.q a)
 ·obtain⟨w,x,y⟩:=A.c.slot j P e q;rw[aJ.b (show j≠tI from λz=>absurd (aS e) (eH.mpr (by rw[z];exact A.E)))];exact⟨w,x,y.mono E λu u u e=>e⟩
def XE.weak(h:∀a,W' a->W a)(x:XE R W' s e s1):XE R W s e s1:=by
 rcases x with⟨a,C,G,E,A,F⟩|⟨q,B,a,C,D,G,E,A,F⟩
 ·exact .inl ⟨a,C,G,λB H=>E B λb o e=>aK (H b o e) λq n=>⟨q,λw=>n (h b w)⟩,A,F⟩
 ·exact .inr ⟨q,B,a,C,λb o e n=>D b o e λw=>n (h b w),G,E,A,F⟩
def J.M(h:J (R.plus (os tI)) (os.f tI []) s t r P):Wt S.g R.A t s r (λb v s'=>JP (R.plus (os tI)) (os.f tI []) s P b v s') (XE R (R.W os) s):=
 Wt.mono h (λz z z x=>x) λe s' x=>XE.weak (R:=R) (W':=R.W (os.f tI [])) (λz=>nI) x
def Yq(R:aU S):aJ->List SV×List SV->List Value->Shared->Prop:=λos b v s=>eO R os b.2 s/\∃o,gu S.g (R.V os s.heap) s.heap v b.1 o/\(os tI).Perm o
def Nh(S:cZ)(a:Bool×IE)(e:Expr):Prop:=y5 S a.1 a.2 e/\bV e=true
def qi:∀{es:List (Bool×IE)} {vs:List Expr},aT (Nh S) es vs->∀(R:aU S) {os:aJ} {en:List SV} {s:Shared},bo R os en s->J R os s (spliced (backTo p (starEach vs R.ah))) (yy S.G S.call es en) (λos b v s=>Yq R os b v s/\b.1.length=es.length):=by
 intro es vs h
 induction h with
 |j=>exact λR os en s I=>J.here ⟨⟨I.toeO,[],.j,by rw[I.tm]⟩,rfl⟩
 | @u a v es vs h t ih=>
  intro R os en s I;rw[aM h.2];show J R os s (eval v R.ah>>=λv=>(pure [v]:Sem (List Value))>>=λC=>holding C (spliced (backTo p (starEach vs R.ah)))>>=λr=>pure (C++r)) ((H0 S.G S.call a.1 a.2 en).i λb=>(yy S.G S.call es b.2).i λr=>.oK (b.1::r.1,r.2)) _;refine J.i (h.1 R I) λdw b L s1 z=>And.elim λM Q=>J.step (wpAny_pure ⟨.d,J.i (P:=λB D (A:List Value) s2=>eO R B D.2 s2/\ki S.g (R.V B s2.heap) s2.heap L b.1 (dw tI)/\D.1.length=es.length/\∃o,gu S.g (R.V B s2.heap) s2.heap A D.1 o/\(B tI).Perm (dw tI++o)) (J.l ?_) λfq D A s2 z Z=>by obtain⟨H,y,n,o,F,pe⟩:=Z;exact J.here ⟨⟨H,_,show gu _ _ _ (L::A) (b.1::D.1) _ from .u y F,pe⟩,congrArg Nat.succ n⟩⟩);obtain⟨N,U⟩:=M.M;refine Wt.mono (J.M (ih (R.plus (dw tI)) N)) (λD A s2 W=>?_) λz z x=>x;obtain⟨fq,E,⟨H,o,F,pe⟩,n⟩:=W;obtain⟨X,Y,O⟩:=M.a E H;exact⟨_,X,Y,(Q.mono (λa o v=>O a o (E.f.c9 a o (U a o v))) λa m o e=>(E.f a o (N.c.b a (.inr m)).2 e).1),n,o,F.mono O λz z z e=>e,by rw[aJ.d];exact pe.append_left _⟩
def IM(R:aU S)(x:Nat)(f:Value->Sem Unit):Prop:= ∃B,S.dY.lookup B=some x/\∀v s (Q:Unit->Shared->Prop) (E:Value->Shared->Prop),wpAny (model S.g.prog S.g.w) R.A (storeName R.ah B v) Q E s->wpAny (model S.g.prog S.g.w) R.A (f v) Q E s
def gu.b(A:After R os s dw s1 o2)(y:gu S.g (R.V os s.heap) s.heap vs l o):(∀a∈o,a∈os tI)->gu S.g (R.V dw s1.heap) s1.heap vs l o:=by
 induction y with
 |j=>exact λz=>.j
 |u x _ B=>exact λh=>.u (A.keep (λa m=>h a (pq _ m)) x) (B λa m=>h a (iI _ m))
def lN(G:∀x∈xs,yQ R x)(O:aT (IM R) xs D):∀{vals:List Value} {C:List SV} {o:List Addr} {os:aJ} {en en':List SV} {s:Shared},eO R os en s->gu S.g (R.V os s.heap) s.heap vals C o->(os tI).Perm o->cJ xs C en= .oK en'->
 (∀os' s',Le R os s os' s'->bo R os' en' s'->Q () s')->wpAny (model S.g.prog S.g.w) R.A (assignInOrder D vals) Q E s:=by
 induction O with
 |j=>
  intro vals C o os en en' s I y pe B h
  cases y with
  |j=>cases B;exact wpAny_pure (h _ _ .d ⟨I,pe.eq_nil⟩)
  |u _ _ =>cases B
 | @u x f xs D hx _ ih=>
  intro vals C o os en en' s I y pe B h
  cases y with
  |j=>cases B
  | @u v vals sv C o1 o2 y1 y2=>
   obtain⟨W,M,L⟩:=hx;obtain⟨U,B⟩:=jv B;show wpAny _ R.A (holding vals (f v)>>=λz=>assignInOrder D vals) Q E s;refine wpAny_bind (wpAny_holding (L _ _ _ _ (kY I (G _ (.head _)) M pe y1 U λos' s' F N=>?_)));refine ih (λx m=>G x (.tail _ m)) N (gu.b F y2 (λa m=>pe.mem_iff.mpr (iI _ m))) (by rw[F.tm]) B λfq s2 H P=>h fq s2 (F.le.trans H) P
end
section
variable {prog:Program}{w:World}{A:Around}{E:Value->Shared->Prop}
def yD(I:l≠it):∀(n i:Nat) {s:Shared} {Q:List Value->Shared->Prop},s.heap.IsListIter it l i->s.heap.IsList l items->i+n<=items.size->
 (∀h',h'.IsListIter it l (i+n)->Heap.SameBut it s.heap h'->Q ((items.toList.drop i).take n) {s with heap:=h'})->wpAny (model prog w) A (draw (.ref it) n) Q E s:=by
 intro n
 induction n with
 |zero=>exact λi s Q B z z D=>wpAny_pure (D s.heap B (.refl ..))
 |succ n P=>
  intro i s Q B G C D;have F:i<items.size:=gZ (Nat.lt_add_of_pos_right (Nat.succ_pos _)) C;show wpAny _ _ (pyNext (.ref it)>>=_) Q E s;refine wpAny_bind (wpAny_pyNext_list_item B G (x:=items[i]) (Array.getElem?_eq_getElem F) λR M H=>?_);refine wpAny_bind (wpAny_holding (P (i+1) M (G.extBut H.extBut I) (zE C Fd) λL N O=>wpAny_pure ?_));have:=D L (by rw[show i+(n+1)=i+1+n from Fd.symm];exact N) (H.trans O);rw[List.drop_eq_getElem_cons (by rw[mF];exact F),List.take_succ_cons]at this;exact this
def sG(N:A.handled=none)(B:s.heap.IsList l items)(M:∀h',s.heap.StaysIn h'->Q items.toList {s with heap:=h'}):wpAny (model prog w) A (unpackItems (.ref l) items.size none) Q E s:=by
 have F:l≠s.heap.objs.size:=by obtain⟨o,O,_⟩:=B;exact Nat.ne_of_lt (Heap.lt_size O)
 have kp:s.heap.StaysIn (s.heap.push {cls:=.type "list_iterator",data:=.fields #[.ref l,.int 0 0]}):=aI;have H:(s.heap.push {cls:=.type "list_iterator",data:=.fields #[.ref l,.int 0 0]}).IsList l items:=B.at λo e=>kp _ _ e;unfold unpackItems notIterableAtAll;refine wpAny_bind (wpAny_bind (wpAny_specialOf B.typeIs slot_list_iter.lookup (wpAny_pure ?_)));rw[if_neg (by exact fO)];refine wpAny_bind (wpAny_holding (wpAny_pyIter_list B (wpAny_bind (wpAny_holding (yD F items.size 0 (⟨_,ib _ rfl,rfl,rfl⟩:(s.heap.push {cls:=.type "list_iterator",data:=.fields #[.ref l,.int 0 0]}).IsListIter s.heap.objs.size l 0) H (Nat.le_of_eq (Nat.zero_add _)) λP D G=>?_)))));rw[(by rw[List.drop_zero,<-mF];exact List.take_length:(items.toList.drop 0).take items.size=items.toList),if_neg (by rw[mF];exact Nat.lt_irrefl _)];rw[Nat.zero_add]at D;refine wpAny_bind (wpAny_holding (wpAny_pyNext_list_end N D (H.extBut G.extBut F) (Array.getElem?_eq_none (fh _)) λI L=>?_))
 exact wpAny_pure (M I λb o e=>by
  have C:b≠s.heap.objs.size:=Nat.ne_of_lt (Heap.lt_size e)
  exact L b o C (G.extBut b o C (kp b o e)))
def u9(I:A.handled=none)(G:V.le (gJ s.heap))(L:k<2)(r:cf g V v (.n k l))(H:∀vals h',s.heap.StaysIn h'->cm g V vals l->Q vals {s with heap:=h'}):wpAny (model prog w) A (unpackItems v l.length none) Q E s:=by
 rcases lV L with rfl |rfl
 ·obtain⟨a,C,n,rfl,F,B,_⟩:=r.tup;rw[<-bX B];exact unpackItems_tuple I (bY (G _ _ F)) λh' D=>H _ h' (λb o e=>D b o (Nat.ne_of_lt (Heap.lt_size e)) e) B
 ·obtain⟨a,C,n,rfl,F,B,_⟩:=r.aj;rw[<-bX B];exact sG I (aQ (G _ _ F)) λh' D=>H _ h' D B
end
section
variable {S:cZ}{R:aU S}{os os':aJ}{en en':List SV}{s s':Shared}
def xv(C:aT (dn S) xs A):A3 ((assignEach A R.ah).length=xs.length) ((assignEach A R.ah).findIdx? (·.1)=none) (aT (IM R) xs ((assignEach A R.ah).map (·.2))):=by
 induction C with
 |j=>exact⟨rfl,rfl,.j⟩
 | @u x e xs A h _ ih=>
  refine bB λL B=>?_;obtain⟨D,p,rfl,_,G⟩:=h;obtain⟨F,I,H⟩:=ih;refine B (⟨congrArg Nat.succ F,?_,.u ⟨D,G,λv s Q E h=>wpAny_assign_Name h⟩ H⟩);show List.findIdx? _ ((false,_)::assignEach A R.ah)=_;rw[List.findIdx?_cons,if_neg fO,I];rfl
def qd(N:∀x∈xs,yQ R x)(P:aT (dn S) xs X)(I:bo R os en s)(M:k<2)(r:cf S.g (R.V os s.heap) v (.n k l))(D:cJ xs (l.map .h) en= .oK en')(h:∀os' s',Le R os s os' s'->bo R os' en' s'->Q () s'):
 wpAny (model S.g.prog S.g.w) R.A (unpack v (assignEach X R.ah)) Q E s:=by
 refine bB λq H=>?_;obtain⟨W,j,O⟩:=xv (R:=R) P;obtain⟨F,_,_⟩:=jV D;rw[cz]at F;refine H ?_;unfold unpack;rw[W,j,<-F];refine wpAny_bind (wpAny_holding (u9 R.r Vw.at M r λB U C Y=>?_));have G:Le R os s os {s with heap:=U}:=.b C ⟨rfl,rfl⟩;exact lN N O (I.keeps C).toeO (.vals (Y.mono G.f.c9)) (by rw[I.tm]) D λos' s' L Z=>h os' s' (G.trans L) Z
def uG(h:aN tg true v en= .oK en'):kO (λk l=>v= .n k l) (λk l=>k<2) (λk l=>cJ tg (l.map .h) en= .oK en'):=by
 induction v using Mine.AV.casesOn with
 |s c=>cases h
 |n k l=>
  have h:(if k<2 then cJ tg (l.map .h) en else .aA)= .oK en':=h
  by_cases q:k<2
  ·rw[if_pos q]at h;exact⟨k,l,rfl,q,h⟩
  ·rw[if_neg q]at h;cases h
def pg:aN tg tup v en≠.bG:=by
 induction tup using aR with
 |false=>exact gv
 |true=>
  induction v using Mine.AV.casesOn with
  |s c=>exact nofun
  |n k l=>
   show(if k<2 then cJ tg (l.map .h) en else .aA)≠.bG
   split
   ·exact gv
   ·exact nofun
def S1.r(O:∀x∈xs,S.lo<=x)(W:aT (dn S) xs B)(U:SE S e v)(H:g6 v=true)(L:∀ah,swappedStores [.Tuple B c tp] v ah=pure none):S1 S (.r xs e) (.Assign [.Tuple B c tp] v pos):=λR Q os en s I=>by
 refine J.m (K:=λa C s'=>∀E:Value->Shared->Prop,wpAny (model S.g.prog S.g.w) R.A (assignAll a ((assignEach [.Tuple B c tp] R.ah).map (·.2))) (λz=>C .next) E s') (f:=λb:AV×List SV=>(aN xs true b.1 b.2).i λah=>.oK (Fl.a,ah))
  (λC E h=>wpAny_Assign_stores (wpAny_mono h (λz z q=>q E) λz z x=>x) (show swapsWithSole [.Tuple B c tp] v pos.line R.ah=pure false from fv (t:=some (.Tuple B c tp)) (line:=pos.line) (ah:=R.ah) H) (L R.ah)) (U R I) (λb=>?_) λos' b a s' d l ⟨V,r⟩ e E=>?_
 ·induction q:aN xs true b.1 b.2 using Mine.bf with
  |bG=>exact absurd q pg
  |_ =>exact nofun
 ·induction q:aN xs true b.1 b.2 using Mine.bf with
  |bG=>exact absurd q pg
  |aA=>rw[q]at e;cases e
  |oK en'=>
   rw[q]at e;refine bB λj D=>?_;cases e;obtain⟨k,Y,M,G,P⟩:=uG q;rw[M]at r;refine D ?_;show wpAny _ R.A (PySem.assign (.Tuple B c tp) R.ah a) _ E s';rw[PyProof.Rows.assign_Tuple];exact wpAny_bind (wpAny_standAt (qd (λx m=>Q.a (O x m)) W V G r P λN Z F X=>⟨N,l.trans F,.a X⟩))
noncomputable def JU(ts vs:List Expr):Bool:= !(ts.length==2 || ts.length==3) || vs.length !=ts.length || false
noncomputable def JS(vs:List Expr):Bool:=vs.any λ|.Starred ..=>true |_ =>false
noncomputable def CW(D:Scope)(B:List Expr):List Str:=B.filterMap fun
 |.Name C A=>if D.names.lookup C==some .local&&A.line==(B.head?.map (·.pos.line)).getD 0 then some C else none
 |_ =>none
def JR(B:Scope)(A:List Expr):Bool:=(CW B A).length !=A.length || (CW B A).eraseDups.length !=(CW B A).length
def Ja(B:Scope)(A vs:List Expr):Option (List Str):=
 if JU A vs=true then none else if JS vs=true then none else if JR B A=true then none else if vs.all (foldedForSure 8)=true then none else some (CW B A)
def kB(G:ah.scope.kind= .function)(h:vs.all (constantsAlone 8)=false\/vs.all (foldedForSure 8)=true):swappedStores [.Tuple E c tp] (.Tuple vs H I) ah=pure (Ja ah.scope E vs):=by
 obtain⟨b,F⟩:∃b,JR ah.scope E=b:=⟨_,rfl⟩;obtain⟨⟨⟩⟩:=ah;cases G
 by_cases C:JU E vs=true
 ·exact(if_pos C).trans (congrArg pure (if_pos C).symm)
 ·refine(if_neg C).trans (Eq.trans ?_ (congrArg pure (if_neg C).symm))
  by_cases D:JS vs=true
  ·exact(if_pos D).trans (congrArg pure (if_pos D).symm)
  ·refine(if_neg D).trans (Eq.trans ?_ (congrArg pure (if_neg D).symm))
   by_cases A:b=true
   ·have A:=F.trans A;exact(if_pos A).trans (congrArg pure (if_pos A).symm)
   ·have A:=λz=>A (F.symm.trans z)
    refine(if_neg A).trans (Eq.trans ?_ (congrArg pure (if_neg A).symm))
    by_cases B:vs.all (foldedForSure 8)=true
    ·exact(if_pos B).trans (congrArg pure (if_pos B).symm)
    ·refine(if_neg B).trans (Eq.trans ?_ (congrArg pure (if_neg B).symm))
     rcases h with h |h
     ·rw[h];rfl
     ·exact absurd h B
def CZ(h:aT (λx nm=>S.dY.lookup nm=some x) xs ns):aT (IM R) xs (ns.map λn=>bindName R.ah n):=by
 induction h with
 |j=>exact .j
 |u h _ A=>exact .u ⟨_,h,λv s Q E h=>wpAny_bindName h⟩ A
def S1.n(j:Ja S.sc H vs=some ns)(p:∀x∈xs,S.lo<=x)(U:aT (λx nm=>S.dY.lookup nm=some x) xs ns)(r:aT (Nh S) es vs)(d:es.length<=1000)(V:vs.all (constantsAlone 8)=false\/vs.all (foldedForSure 8)=true):
 S1 S (.n true xs es) (.Assign [.Tuple H c tp] (.Tuple vs w L) pos):=λR Q os en s I=>by
 rw[exec_Assign_arm];refine J.h ?_;rw[show swapsWithSole [.Tuple H c tp] (.Tuple vs w L) pos.line R.ah=pure false from rfl,kB R.f V,Q.b,j];refine J.step (wpAny_pure ⟨.d,?_⟩);rw[if_neg fO];show J R os s ((PySem.standAt L>>=λK=>spliced (backTo L (starEach vs R.ah))>>=λxs=>newTuple xs)>>=λv=>pure (some ns)>>=λl=>assignStores R.ah v l ((assignEach [.Tuple H c tp] R.ah).map (·.2)))
  ((yy S.G S.call es en).i λb=>(cJ xs.reverse b.1.reverse b.2).i λen=>.oK (Fl.a,en)) _
 rw[bind_assoc];refine J.h ?_;rw[bind_assoc];refine J.i (qi r R I) λC b A B K X=>?_;obtain⟨⟨u,o,y,pe⟩,n⟩:=X;have M:=y.E;refine J.step (wpAny_newTuple ⟨(.b aI ⟨rfl,rfl⟩:Le R C B C {B with heap:=B.heap.push (de A.toArray 0)}),J.step (wpAny_pure ⟨.d,?_⟩)⟩ (az (zE (zE d n) M) (by decide:(1000:Nat)<=sizeLine)));refine J.j gv λen' P=>?_;obtain⟨N,_,_⟩:=jV P;rw[List.length_reverse,List.length_reverse]at N
 show J R C {B with heap:=_} (rule "assign.swapped-stores">>=λK=>unpackItems (.ref B.heap.objs.size) ns.length none>>=λD=>assignInOrder (ns.reverse.map λn=>bindName R.ah n) D.reverse>>=λK=>pure Flow.next) _ _
 refine J.step (wpAny_rule ⟨.d,?_⟩);rw[show ns.length=A.toArray.size by rw[List.size_toArray,M,N,U.E]];refine wpAny_bind (unpackItems_tuple R.r (bY (ib _ rfl):IsTup (B.heap.push (de A.toArray 0)) B.heap.objs.size A.toArray) λE O=>?_);have F:B.heap.StaysIn E:=λb o e=>O b o (Nat.ne_of_lt (Heap.lt_size (aI _ _ e))) (aI _ _ e);have Y:Le R C B C {B with heap:=E}:=.b F ⟨rfl,rfl⟩;obtain⟨g,z,q⟩:=y.rev;have W:Le R C {B with heap:=B.heap.push (de A.toArray 0)} C {B with heap:=E}:=.b (λb o e=>?_) ⟨rfl,rfl⟩
 ·refine wpAny_bind (lN (λx m=>Q.a (p x (List.mem_reverse.mp m))) (CZ U.rev) (s:={B with heap:=E}) (u.keeps F) (z.mono Y.f.c9 λa K o e=>F a o e) (pe.trans q.symm) P λk i Z t=>wpAny_pure ⟨k,W.trans Z,.a t⟩)
 ·exact O b o (Nat.ne_of_lt (Heap.lt_size e)) e
def S1.N(W:Ja S.sc D vs=none)(z:∀x∈xs,S.lo<=x)(p:aT (dn S) xs D)(l:aT (Nh S) es vs)(k:es.length<=1000)(Q:vs.all (constantsAlone 8)=false\/vs.all (foldedForSure 8)=true):
 S1 S (.n false xs es) (.Assign [.Tuple D c tp] (.Tuple vs j H) pos):=λR O os en s I=>by
 rw[exec_Assign_arm];refine J.h ?_;rw[show swapsWithSole [.Tuple D c tp] (.Tuple vs j H) pos.line R.ah=pure false from rfl,kB R.f Q,O.b,W];refine J.step (wpAny_pure ⟨.d,?_⟩);rw[if_neg fO];show J R os s ((PySem.standAt H>>=λK=>spliced (backTo H (starEach vs R.ah))>>=λxs=>newTuple xs)>>=λv=>pure Option.none>>=λw=>assignStores R.ah v w ((assignEach [.Tuple D c tp] R.ah).map (·.2)))
  ((yy S.G S.call es en).i λb=>(cJ xs b.1 b.2).i λen=>.oK (Fl.a,en)) _
 rw[bind_assoc];refine J.h ?_;rw[bind_assoc];refine J.i (qi l R I) λC b A B K U=>?_;obtain⟨⟨Z,o,y,pe⟩,n⟩:=U;have L:=y.E;refine J.step (wpAny_newTuple ⟨(.b aI ⟨rfl,rfl⟩:Le R C B C {B with heap:=B.heap.push (de A.toArray 0)}),J.step (wpAny_pure ⟨.d,?_⟩)⟩ (az (zE (zE k n) L) (by decide:(1000:Nat)<=sizeLine)));refine J.j gv λen' N=>?_;refine bB λg P=>?_;obtain⟨Y,_,_⟩:=jV N;obtain⟨q,r,X⟩:=xv (R:=R) p;refine P ?_
 show J R C {B with heap:=_} (PySem.assign (.Tuple D c tp) R.ah (.ref B.heap.objs.size)>>=λK=>pure Flow.next) _ _
 rw[PyProof.Rows.assign_Tuple,bind_assoc];refine J.h ?_;unfold unpack;rw[q,r,show xs.length=A.toArray.size by rw[List.size_toArray,L,Y],bind_assoc];refine wpAny_bind (wpAny_holding (unpackItems_tuple R.r (bY (ib _ rfl):IsTup (B.heap.push (de A.toArray 0)) B.heap.objs.size A.toArray) λE M=>?_));have F:B.heap.StaysIn E:=λb o e=>M b o (Nat.ne_of_lt (Heap.lt_size (aI _ _ e))) (aI _ _ e);exact wpAny_bind (lN (λx m=>O.a (z x m)) X (s:={B with heap:=E}) (Z.keeps F) (y.mono (.b F ⟨rfl,rfl⟩:Le R C B C {B with heap:=E}).f.c9 λa K o e=>F a o e) pe N λu t V d=>wpAny_pure ⟨u,(.b (λb o e=>M b o (Nat.ne_of_lt (Heap.lt_size e)) e) ⟨rfl,rfl⟩:Le R C {B with heap:=B.heap.push (de A.toArray 0)} C {B with heap:=E}).trans V,.a d⟩)
end
noncomputable def tM(e:Expr):Bool:=e.ctorIdx==21
def iz(h:tM t=true):assignEach (t::A) ah=(false,PySem.assign t ah)::assignEach A ah:=by
 cases t<;>first |rfl |cases h
section
variable {S:cZ}{R:aU S}{os os':aJ}{en en':List SV}{s s':Shared}
def J.X{C:Heap->Prop}(D:∀(Q:α->Shared->Prop) (E:Value->Shared->Prop),(∀h,C h->wpAny (model S.g.prog S.g.w) R.A t Q E {s with heap:=h})->wpAny (model S.g.prog S.g.w) R.A G Q E s)
 (h:∀h,C h->Le R os s os {s with heap:=h}/\J R os {s with heap:=h} t r P):J R os s G r P:=by
 have k:∀B,C B->Wt S.g R.A t {s with heap:=B} r (λb v F=>JP R os s P b v F) (XE R (R.W os) s):=λB q=>J.more (h B q).1 (h B q).2
 induction r using Mine.bf with
 |oK b=>exact D _ _ k
 |bG=>exact D _ _ k
 |aA=>trivial
def J5(S:cZ)(x:Nat)(i j:IE)(b:List AV×List SV):aD (List SV):=match b.1 with
 |[v,w]=>(kc S.G S.call x none i v b.2).i λen=>kc S.G S.call x none j w en
 |_ =>.aA
def rep2(r:cm g V vals ws)(n:ws.length=2):Np (λv v' w A=>vals=[v,v']) (λv v' w A=>ws=[w,A]) (λv v' w A=>cf g V v w) (λv v' w A=>cf g V v' A):=by
 cases r with
 |j=>cases n
 |u h t=>
  obtain⟨v',A,rfl,rfl,B⟩:=rep1 t (Nat.succ.inj n);exact⟨_,_,_,_,rfl,rfl,h,B⟩
def S1.A(h1:UA S x none i t1)(h2:UA S x none j B)(w:tM t1=true)(U:tM B=true)(he:SA S e v1)(d:SA S X v2)(hw:Ja S.sc [t1,B] [v1,v2]=none)
 (l:[v1,v2].all (constantsAlone 8)=false\/[v1,v2].all (foldedForSure 8)=true):S1 S (.A x i j e X) (.Assign [.Tuple [t1,B] c tp] (.Tuple [v1,v2] c' Z) pos):=λR hR os en s I=>by
 rw[exec_Assign_arm];refine J.h ?_;rw[show swapsWithSole [.Tuple [t1,B] c tp] (.Tuple [v1,v2] c' Z) pos.line R.ah=pure false from rfl,kB R.f l,hR.b,hw];refine J.step (wpAny_pure ⟨.d,?_⟩);rw[if_neg fO]
 rw[(by
  rw[Bh]
  show(ev S.G S.call e en).i _=_
  congr 1;funext b
  congr 1;funext c
  show _=((kc S.G S.call x none i b.1 c.2).i λen=>kc S.G S.call x none j c.1 en).i _
  rw[aE]:eG S.G S.call (.A x i j e X) en=(bu S.G S.call [e,X] en).i λb=>(J5 S x i j b).i λen=>.oK (.a,en))]
 show J R os s ((PySem.standAt Z>>=λK=>spliced (backTo Z (starEach [v1,v2] R.ah))>>=λp=>newTuple p)>>=λv=>pure Option.none>>=λsw=>assignStores R.ah v sw ((assignEach [.Tuple [t1,B] c tp] R.ah).map (·.2))) _ _;rw[bind_assoc];refine J.h ?_;rw[bind_assoc];refine J.i (iY (.u he (.u d .j)) R I) λA b y C K dO=>aK dO λka n=>aK ka λg f=>?_;obtain⟨ws,z⟩:=b;obtain⟨H,D,r,w2,rfl,rfl,Y,q⟩:=rep2 f n;have L:IsTup (C.heap.push (de [H,D].toArray 0)) C.heap.objs.size [H,D].toArray:=bY (ib _ rfl);refine J.step (wpAny_newTuple ⟨.b aI ⟨rfl,rfl⟩,J.step (wpAny_pure ⟨.d,?_⟩)⟩ (az (show 2<=1000 by decide) (by decide:(1000:Nat)<=sizeLine)));refine J.i (t:=PySem.assign (.Tuple [t1,B] c tp) R.ah (.ref C.heap.objs.size)) (P:=λos' en' K s'=>bo R os' en' s') ?_ λfq wc K a K u=>J.here (.a u);rw[PyProof.Rows.assign_Tuple];refine J.h ?_;have O:=aI (h:=C.heap) (x:=de [H,D].toArray 0);obtain⟨F,m⟩:∃F,F=C.heap.push (de [H,D].toArray 0):=⟨_,rfl⟩;rw[<-m]at L O|-;have Y:=Y.mono (dE.b (W:=R.W A) O).c9 (V':=R.V A F);have q:=q.mono (dE.b (W:=R.W A) O).c9 (V':=R.V A F);refine J.X (λQ E h=>unpack_tuple R.r L (by rw[iz w,iz U];rfl) (by rw[iz w,iz U];rfl) h) λN kx=>?_;have M:F.StaysIn N:=λb o e=>kx b o (Nat.ne_of_lt (Heap.lt_size e)) e;refine⟨.b M ⟨rfl,rfl⟩,?_⟩;rw[iz w,iz U];show J R A {C with heap:=N} (holding [D] (PySem.assign t1 R.ah H)>>=λK=>holding [] (PySem.assign B R.ah D)>>=λK=>pure ()) ((kc S.G S.call x none i r z).i λen=>kc S.G S.call x none j w2 en) _;refine J.i (J.l (h1 R ((g.keeps O:bo R A z {C with heap:=F}).keeps M) (Y.mono (dE.b (W:=R.W A) M).c9 (V':=R.V A N)))) λfq wc K a k u=>J.then (J.l (h2 R u (k.rep (q.mono (dE.b (W:=R.W A) M).c9 (V':=R.V A N))))) λJg Js K s3 l3 I3=>J.here I3
end
section
variable {g:Gd}{O:ie}{X pl:dJ}{hold:Nat->Value->Prop}{os:aJ}{en:List SV}{h:Heap}
def cU.give(I:cU g O X pl hold os en h)(P:x<en.length)(D:en.length<=tI)(M:os tI=[]):Wr O pl ((os.f x []).f tI (os x))=Wr O pl os/\cU g O X pl hold ((os.f x []).f tI (os x)) (en.set x .a) h:=by
 have L:x≠tI:=λe=>absurd P (eH.mpr (e▸D))
 have B:∀{j a},a∈((os.f x []).f tI (os x)) j->(j=tI/\a∈os x)\/(j≠x/\j≠tI/\a∈os j):=λm=>by
  rcases aJ.c m with m |⟨q,m⟩
  ·exact .inl m
  ·exact(aJ.c m).elim nofun λN=>aK N λz m=>.inr ⟨z,q,m⟩
 have F:∀{j a},a∈((os.f x []).f tI (os x)) j->∃k,a∈os k:=λm=>(B m).elim (λm=>⟨_,m.2⟩) λm=>⟨_,m.2.2⟩
 have E:Wr O pl ((os.f x []).f tI (os x))=Wr O pl os:=funext λa=>propext ⟨λw=>by
  rcases w with w |w |⟨j,w⟩
  ·exact .inl w
  ·exact .inr (.inl w)
  ·exact .inr (.inr (F w)),λw=>by
  rcases w with w |w |⟨j,w⟩
  ·exact .inl w
  ·exact .inr (.inl w)
  ·by_cases q:j=x
   ·exact .inr (.inr ⟨tI,by rw[aJ.d,<-q];exact w⟩)
   ·exact .inr (.inr ⟨j,by rw[aJ.b (λz=>by rw[z,M]at w;cases w),aJ.b q];exact w⟩)⟩
 refine⟨E,E▸I.base,E▸I.b,I.n,I.l,λj a m=>eK (F m) λy m=>I.e _ a m,λj=>?_,λi j a H m C=>?_,λj G e=>?_,λa m=>?_,λj s e q=>?_⟩
 ·by_cases q:j=tI
  ·rw[q,aJ.d];exact I.nd x
  ·by_cases A:j=x
   ·rw[A,aJ.b L,aJ.d];exact .nil
   ·rw[aJ.b q,aJ.b A];exact I.nd j
 ·rcases B m with⟨q,m⟩|⟨q,R,m⟩<;>rcases B C with⟨A,C⟩|⟨A,Q,C⟩
  ·exact H (q.trans A.symm)
  ·exact I.k _ _ a (Ne.symm A) m C
  ·exact I.k _ _ a q m C
  ·exact I.k _ _ a H m C
 ·rw[aJ.b G]
  by_cases q:j=x
  ·rw[q,aJ.d]
  ·rw[aJ.b q];rw[List.getElem?_set_ne (Ne.symm q)]at e;exact I.emp j G e
 ·rw[aJ.d]at m;exact I.live m
 ·rw[E];rcases iL e with⟨_,rfl⟩|⟨A,e⟩
  ·exact absurd rfl q
  ·rw[aJ.b (show j≠tI from λz=>absurd (aS e) (eH.mpr (by rw[z];exact D))),aJ.b A];exact I.slot j s e q
end
section
variable {S:cZ}{R:aU S}{os os':aJ}{en en':List SV}{s s':Shared}
def SM(S:cZ):Option Nat×IE->Expr->Prop
 |(none,e),x=>SA S e x
 |(some y,_),x=>dn S y x
def PM(R:aU S):aJ->SF×List SV->Value->Shared->Prop:=λos b v s=>eO R os b.2 s/\iG S.g (R.V os s.heap) s.heap v b.1 (os tI)
def H2(h:SM S m x)(R:aU S)(I:bo R os en s):J R os s (eval x R.ah) (H3 S.G S.call m en) (PM R):=by
 obtain⟨y,e⟩:=m
 induction y using aF with
 |none=>exact J.post ((show SA S e x from h).1 R I) λos' b v s' p=>⟨nofun,λc q=>by cases q;exact⟨p.1.toeO,by rw[p.1.tm];exact .v p.2⟩⟩
 |some y=>
  refine J.j cQ λl N=>?_;refine bB λZ L=>?_;refine dg (cM N) λsf M C=>?_;refine dg M λF D A=>?_
  have V:F= .f (.o l):=by
   induction F using Mine.SV.casesOn with
   |a=>cases A
   |f U=>
    cases(show some U=some sf from A)
    induction sf using Mine.SF.casesOn with
    |v a=>cases C
    |o P=>cases C;rfl
   |e k P=>cases A
  subst V;obtain⟨j,v,W,Q,B⟩:=I.slotAt D nofun;obtain⟨H,c⟩:=I.c.give (aS D) I.E I.tm;refine L (gz (show dn S y x from h) W Q ⟨_,⟨λa o n e=>⟨e,λw=>n (show Wr R.O R.pl os a from H▸(show Wr R.O R.pl ((os.f y []).f tI (os y)) a from w))⟩,.d _,λu u u u u h=>h⟩,⟨c,I.oK,I.inj,by rw[eI];exact I.E⟩,?_⟩);show iG S.g (Vw R.X (Wr R.O R.pl _) s.heap) s.heap v (.o l) _;rw[H,aJ.d];obtain⟨E,Y⟩:∃E,os y=E:=⟨_,rfl⟩;rw[Y]at B|-
  cases B with
  |f z=>exact z
def Yr(R:aU S):aJ->List SF×List SV->List Value->Shared->Prop:=λos b v s=>eO R os b.2 s/\∃o,dk S.g (R.V os s.heap) s.heap v b.1 o/\(os tI).Perm o
def Es:∀{es:List (Option Nat×IE)} {vs:List Expr},aT (λm x=>SM S m x/\bV x=true) es vs->∀(R:aU S) {os:aJ} {en:List SV} {s:Shared},bo R os en s->J R os s (spliced (backTo p (starEach vs R.ah))) (o8 S.G S.call es en) (λos b v s=>Yr R os b v s/\b.1.length=es.length):=by
 intro es vs h
 induction h with
 |j=>exact λR os en s I=>J.here ⟨⟨I.toeO,[],.j,by rw[I.tm]⟩,rfl⟩
 | @u a v es vs h t ih=>
  intro R os en s I;rw[aM h.2];show J R os s (eval v R.ah>>=λv=>(pure [v]:Sem (List Value))>>=λB=>holding B (spliced (backTo p (starEach vs R.ah)))>>=λr=>pure (B++r)) ((H3 S.G S.call a en).i λb=>(o8 S.G S.call es b.2).i λr=>.oK (b.1::r.1,r.2)) _;refine J.i (H2 h.1 R I) λH b M u z=>And.elim λN U=>J.step (wpAny_pure ⟨.d,J.i (P:=λos' D (A:List Value) C=>eO R os' D.2 C/\iG S.g (R.V os' C.heap) C.heap M b.1 (H tI)/\D.1.length=es.length/\∃o,dk S.g (R.V os' C.heap) C.heap A D.1 o/\(os' tI).Perm (H tI++o)) (J.l ?_) λj D A C z q=>by obtain⟨L,y,n,o,F,pe⟩:=q;exact J.here ⟨⟨L,_,show dk _ _ _ (M::A) (b.1::D.1) _ from .u y F,pe⟩,congrArg Nat.succ n⟩⟩);obtain⟨O,W⟩:=N.M;refine Wt.mono (J.M (ih (R.plus (H tI)) O)) (λD A C X=>?_) λz z x=>x;obtain⟨j,E,⟨L,o,F,pe⟩,n⟩:=X;obtain⟨Y,Z,Q⟩:=N.a E L;exact⟨_,Y,Z,(U.mono (λa o v=>Q a o (E.f.c9 a o (W a o v))) λa m o e=>(E.f a o (O.c.b a (.inr m)).2 e).1),n,o,F.mono Q λz z z e=>e,by rw[aJ.d];exact pe.append_left _⟩
def S1.F(u:aT (λm x=>SM S m x/\bV x=true) es vs)(N:es.length<=1000):S1 S (.F es) (.Return (some (.List vs p)) pos):=λR T os en s I=>by
 refine J.m (t:=eval (.List vs p) R.ah) (r:=(o8 S.G S.call es en)) (K:=λv O s'=>O (.ret v) s') (P:=λos b v s=>eO R os b.2 s/\ki S.g (R.V os s.heap) s.heap v (.e 1 b.1) (os tI)) (f:=λb:List SF×List SV=>.oK (Fl.C (.e 1 b.1),b.2)) (λO E h=>wpAny_Return_some h) ?_ (λT=>nofun) λos' b v s' d l p e=>by
  cases e;exact⟨os',l,p.1,v,rfl,p.2⟩
 show J R os s (PySem.standAt p>>=λT=>spliced (backTo p (starEach vs R.ah))>>=λQ=>newList Q) _ _;refine J.h (J.then (Es u R I) λL b A B T Z=>aK Z λX n=>aK X λF Y=>eK Y λo z=>aK z λy pe=>?_)
 have k:(1000:Nat)<=dF:=by decide
 have C:=aI (h:=B.heap) (x:=listOf A.toArray 0)
 have M:dE (R.W L) B.heap (R.W (L.f tI ([B.heap.objs.size]++o))) (B.heap.push (listOf A.toArray 0)):=λc D H e=>⟨C c D e,λw=>by
  rcases w with w |w |⟨j,w⟩
  ·exact H (.inl w)
  ·exact H (.inr (.inl w))
  ·rcases aJ.c w with⟨_,w⟩|⟨_,w⟩
   ·rcases gM.mp w with w |w
    ·exact bw (dN.mp w▸bJ) e
    ·exact H (.inr (.inr ⟨_,pe.mem_iff.mpr w⟩))
   ·exact H (.inr (.inr ⟨j,w⟩))⟩
 refine wpAny_newList ⟨L.f tI ([B.heap.objs.size]++o),⟨M,⟨rfl,rfl⟩,λT T T T T h=>h.at λo=>C _ o⟩,⟨F.c.r F.E C (λT T=>kE λl=>And.elim λe h=>⟨l,e,h.at λo=>C _ o⟩) (λa m=>(gM.mp m).elim (λm=>⟨_,dN.mp m▸ib _ rfl⟩) λm=>eK (y.live a m) λD e=>⟨D,C a D e⟩:∀a∈[B.heap.objs.size]++o,∃D,(B.heap.push (listOf A.toArray 0)).get? a=some D) (λa m=>(gM.mp m).elim (λm=>.inr (dN.mp m▸bJ)) λm=>.inl (pe.mem_iff.mpr m)) ?_,λi l e=>(F.oK i l e).at λo=>C _ o,F.inj,F.E⟩,?_⟩ (az (zE (zE N n) (y.E)) (by decide:(1000:Nat)<=sizeLine))
 ·refine List.nodup_append.mpr ⟨List.nodup_cons.mpr ⟨nofun,.nil⟩,pe.nodup_iff.mp (F.c.nd tI),λa m b q e=>?_⟩;obtain⟨D,U⟩:=y.live b q;exact bw (e▸dN.mp m▸bJ) U
 ·rw[aJ.d];exact .e (Nat.one_ne_zero) (.aj (ib _ rfl)) (y.mono M.c9 λa T o e=>C a o e) (zT (zE N n) rfl)
end
def fZ(h:Heap)(p:Addr->Prop):f9 (λ(F:Heap)=>(∀b o,h.get? b=some o->p b->F.get? b=some o)) (λ(F:Heap)=>(∀b o,F.get? b=some o->h.get? b=some o/\p b)):=by
 classical
 refine⟨hideAll h ((List.range h.objs.size).filter λb=>decide ¬p b),λb o e A=>hideAll_get _ e ?_,λb o e=>⟨of_hideAll _ e,?_⟩⟩
 ·intro B;have:=(ic.mp B).2;simp only[decide_eq_true_eq]at this;exact this A
 ·refine Classical.byContradiction λA=>?_
  have:(hideAll h ((List.range h.objs.size).filter λb=>decide ¬p b)).get? b=none:=
   hideAll_none _ (ic.mpr ⟨List.mem_range.mpr (Heap.lt_size (of_hideAll _ e)),by simpa using A⟩)
  rw[this]at e;cases e
def m5(R:Heap.HeldW base l e cls a0 L s.heap)
 (h:∀h',Heap.HeldW base l e cls a0 L h'->s.heap.UpToSlots h'->Q () {s with heap:=h'}):wpAny M A (setFlight (.ref e) (some L)) Q E s:=by
 refine bB λz Y=>?_;obtain⟨y,v,w,j,G,T,oT,O,S,u,U,X,P,V,I,F,Z⟩:=R;have N:3<O.size:=(Array.getElem?_eq_some_iff.mp Z).1;have B:∀b,b≠T->(s.heap.update T (Obj.mapFields (·.setIfInBounds 3 ((some L).elim Value.none λf=>rawInt f)))).get? b=s.heap.get? b:=λb C=>Heap.get?_update_other _ _ (Ne.symm C)
 have W:∀b o,s.heap.get? b=some o->(∀G,o.data≠.fields G)->b≠T:=λb o C D q=>by
  rw[q,I]at C;cases C;exact D O F
 refine Y ?_;unfold setFlight;refine wpAny_bind (wpAny_field S U X ?_);rw[if_pos (show(Value.ref T !=Value.none)=true from rfl)]
 refine wpAny_setField I F N (h _ ⟨λb o H=>(B b λq=>by rw[q,P]at H;cases H).trans (y b o H),v,
  w.of_keeps λb o C D=>⟨o,(B b (W b o C D)).trans C,rfl⟩,?_⟩ λb o C D=>⟨o.slots,(B b (W b o C D)).trans C⟩)
 exact⟨j,G,T,_,_,(B e (Ne.symm V)).trans S,u,U,X,P,V,Heap.get?_update_self _ I (Obj.isFreed_of_fields (Obj.data_mapFields F _)),Obj.data_mapFields F _,by simp[N]⟩
section
variable {S:cZ}{R:aU S}{os:aJ}{en:List SV}{W:dJ}{s₀ s:Shared}{e:Value}
inductive XN(R:aU S)(W:dJ)(s₀:Shared)(e:Value)(s':Shared):Prop
 |mk (B:Heap) (a:Addr) (a0:Value) (big:∀b o,s₀.heap.get? b=some o->¬W b->B.get? b=some o) (he:e= .ref a) (k:Heap.HeldW B R.l a (.ref S.cB) a0 R.L s'.heap) (out:∀p∈R.O,s'.heap.Ns p.1 p.2) (sm:fb s₀ s')
def jX{O:ie}{h h':Heap}(x:∀p∈O,h.Ns p.1 p.2)(k:h.UpToSlots h'):∀p∈O,h'.Ns p.1 p.2:=λp A=>k.ns (x p A)
def aU.frames(R:aU S):R.A.frames=some R.l:=(R.ig λz=>Option.none).frames
def XE.b(z:uS R)(x:XE R W s₀ e s){Q:Unit->Shared->Prop}(M:∀s',XN R W s₀ e s'->Q () s'):wpAny (model S.g.prog S.g.w) R.A (noteFrame e R.ah) Q E s:=by
 obtain⟨L,C⟩:=z.top;have O:=R.frames;rw[C]at O;rcases x with⟨a,H,rfl,D,G,I⟩|⟨_,B,a,H,F,rfl,k,G,I⟩
 ·obtain⟨B,l,Z⟩:=fZ s₀.heap λb=> ¬W b;have D:=D B Z;rw[C]at D;exact wpAny_looks_onW O R.frame D λv N P=>M _ ⟨B,a,H,l,rfl,C▸N,jX G P,I⟩
 ·cases k with
  |held x=>exact wpAny_noteFrame_againW R.frame x.2.2.2 (M _ ⟨B,a,H,F,rfl,x,G,I⟩)
  |d c p j V U D q Y X m=>
   rw[C]at U;unfold noteFrame;rw[R.frame];refine wpAny_bind (wpAny_field D Y X ?_);rw[if_neg (by decide)];refine wpAny_entryW O U R.frame D j V Y (Array.getElem?_eq_some_iff.mp X).1 m λv u=>?_;obtain⟨N,P,o,y⟩:=u;exact M _ ⟨B,a,H,F,rfl,C▸⟨N,V,P,q▸o⟩,jX G y,I⟩
def XN.back(I:uS R)(x:XN R W s₀ e s):cameBackBy (model S.g.prog S.g.w) R.A R.ah (XE R W s₀) e s:=by
 refine bB λu E=>?_;obtain⟨B,a,H,C,rfl,D,F,P⟩:=x;obtain⟨_,_,_,V,Q,T,oT,Z,L,Y,M,O,q,v,j,U,_⟩:=id D;refine E ?_;unfold cameBackBy;refine wpAny_bind (wpAny_field L M O ?_);rw[if_neg (show ¬((Value.ref T==Value.none)=true)from fO),R.frame];exact m5 D λX G N=>.inr ⟨I.st,B,a,H,C,rfl,.held G,jX F N,P⟩
def RL{A:Type}(Q:A->Flow->Shared->Prop)(X:Value->Shared->Prop)(r:aD A)(res:Result)(s':Shared):Prop:=match r,res with
 |.oK b,.ok f=>Q b f s'
 |.bG,.error e=>X e s'
 |.aA,_ =>True
 |_,_ =>False
def oq(B:uS R)(C:r= .bG)(x:XE R W s₀ e s):notedBy (model S.g.prog S.g.w) R.A R.ah (λe s'=>RL Q (XN R W s₀) r (.error e) s') e s:=by
 subst C;exact x.b B λs' x=>x
def tq(C:uS R)(h:r≠.aA->codeAny (model S.g.prog S.g.w) R.A c (RL Q (XN R W s₀) r) s):Wt S.g R.A (runOwn c R.ah) s r Q (XE R W s₀):=by
 induction r using Mine.bf with
 |oK b=>exact wpAny_runOwn (codeAny_mono (h nofun) λB D q=>by
  induction B using Except.casesOn with
  |ok f=>exact q
  |error e=>exact q.elim)
 |bG=>exact wpAny_runOwn (codeAny_mono (h nofun) λB D q=>by
  induction B using Except.casesOn with
  |ok f=>exact q.elim
  |error e=>exact XN.back C q)
 |aA=>trivial
inductive WhileI(R:aU S){β:Type}(step:Nat->List SV->aD β)(r:aD β)(os:aJ)(s₀:Shared)(m:Nat)(s':Shared):Prop
 |mk (os':aJ) (en':List SV) (le:Le R os s₀ os' s') (I:bo R os' en' s') (h:step m en'=r)
def S1.M(a:SB S t x)(z:SL S b bs):S1 S (.M t b) (.While x bs [] pos):=λR M os en s I=>by
 rw[exec_While];refine J.h ?_;show Wt S.g R.A _ s (d0 (ev S.G S.call t) (λE=>aG S.G S.call b E) S.G.d en) _ _;refine tq M λL=>?_;refine codeAny_whileLoop (WhileI R (d0 (ev S.G S.call t) λE=>aG S.G S.call b E) _ os s) (λm s1 q=>?_) S.G.d ⟨os,en,.d,I,rfl⟩;generalize d0 (ev S.G S.call t) (λE=>aG S.G S.call b E) S.G.d en=r at L q|-;obtain⟨dw,U,P,k,B⟩:=q
 induction m using dU with
 |zero=>exact absurd B.symm L
 |succ m=>
  change((ev S.G S.call t U).i λx=>(c_ x.1).i λd=>if d then(aG S.G S.call b x.2).i λy=>match y.1 with |.C w=>.oK (.C w,y.2)|_ =>d0 (ev S.G S.call t) (λE=>aG S.G S.call b E) m y.2 else .oK (.a,x.2))=r at B
  rw[pj (f:=λx=>if x.1 then(aG S.G S.call b x.2).i λy=>match y.1 with |.C w=>.oK (.C w,y.2)|_ =>d0 (ev S.G S.call t) (λE=>aG S.G S.call b E) m y.2 else .oK (.a,x.2))]at B
  have D:=a R k
  induction hx:bb (ev S.G S.call t U)using Mine.bf with
  |aA=>rw[hx]at B;exact absurd B.symm L
  |bG=>
   rw[hx]at B D;exact wpAny_mono D (λW W x=>x.elim) λe l x=>oq M B.symm (x.from P.f P.m)
  |oK bx=>
   rw[hx]at B D;refine wpAny_mono D (λY n q=>?_) λW W x=>x.elim;refine bB λP0 Z=>?_;obtain⟨d,Q⟩:=bx;obtain⟨c,j,rfl,X⟩:=q;have H:=P.trans j;refine Z ?_
   induction Y using aR with
   |false=>
    cases B;exact wpAny_execs_nil ⟨c,H,.a X⟩
   |true=>
    change((aG S.G S.call b Q).i λy=>match y.1 with |.C w=>.oK (.C w,y.2)|_ =>d0 (ev S.G S.call t) (λE=>aG S.G S.call b E) m y.2)=r at B
    have C:=z R M X
    induction hy:aG S.G S.call b Q using Mine.bf with
    |aA=>rw[hy]at B;exact absurd B.symm L
    |bG=>
     rw[hy]at B C;exact wpAny_mono C (λW W x=>x.elim) λe l x=>oq M B.symm (x.from H.f H.m)
    |oK i=>
     rw[hy]at B C;refine wpAny_mono C (λY h q=>?_) λW W x=>x.elim;obtain⟨N,u,p⟩:=q;have O:=H.trans u;obtain⟨f,V⟩:=i
     induction f using Mine.Fl.casesOn with
     |a=>obtain⟨rfl,F⟩:=p.inv;exact⟨m,lH _,N,V,O,F,B⟩
     |cont=>obtain⟨F,rfl,o⟩:=p;exact⟨m,lH _,N,V,O,⟨F,o⟩,B⟩
     |C w=>
      obtain⟨F,v,rfl,y⟩:=p;cases B;exact⟨N,O,F,v,rfl,y⟩
end
def kr(ia:List Addr)(h h':Heap):Prop:=∀b o,b∉ia->h.get? b=some o->h'.get? b=some o
def Cd(g:Gd)(V:cR)(h h':Heap)(B:Value)(v:AV):Prop:=∀A:cR,V.le A->(∀a o,h.get? a=none->h'.get? a=some o->A a o)->cf g A B v
def Cd.ir(r:cf g V val v):Cd g V h h' val v:=λz m z=>r.mono m
structure pB(g:Gd)(A:Around)(b9:Expr)(it:Addr)(ia:List Addr)(St:List AV->cR->Heap->Prop):Prop where
 live:∀{items:List AV} {V:cR} {h:Heap},St items V h->∀b∈ia,∃o,h.get? b=some o
 frame:∀{items:List AV} {V V':cR} {h h':Heap},St items V h->V.le (gJ h)->V.le V'->V'.le (gJ h')->(∀b∈ia,∀o,h.get? b=some o->h'.get? b=some o)->St items V' h'
 a:∀{v:AV} {r:List AV} {V:cR} {s:Shared} {Q:Option Value->Shared->Prop} {E:Value->Shared->Prop},V.le (gJ s.heap)->St (v::r) V s.heap->
  (∀val s1,(∀{Q2:Unit->Shared->Prop} {E2:Value->Shared->Prop},(∀s2,kr ia s.heap s2.heap->fb s s2->Cd g V s.heap s2.heap val v->St r V s2.heap->Q2 () s2)->wpAny (model g.prog g.w) A (letOwnedTupleGo b9 (.ref it) val) Q2 E2 s1)->Q (some val) s1)->wpAny (model g.prog g.w) A (pyNext (.ref it)) Q E s
 self:∀{items:List AV} {V:cR} {s:Shared} {Q:Value->Shared->Prop} {E:Value->Shared->Prop},St items V s.heap->Q (.ref it) s->wpAny (model g.prog g.w) A (pyIter (.ref it)) Q E s
 done:∀{V:cR} {s:Shared} {Q:Option Value->Shared->Prop} {E:Value->Shared->Prop},V.le (gJ s.heap)->St [] V s.heap->(∀s1,kr ia s.heap s1.heap->fb s s1->Q none s1)->wpAny (model g.prog g.w) A (pyNext (.ref it)) Q E s
section
variable {S:cZ}{R:aU S}{os os':aJ}{en en':List SV}{s s':Shared}{ia:List Addr}
def bo.lend(I:bo R os en s)(k:s.heap.StaysIn s'.heap)(C:∀a∈ia,s.heap.get? a=none)(M:∀a∈ia,∃o,s'.heap.get? a=some o):bo (R.plus ia) os en s'/\(R.V os s.heap).le ((R.plus ia).V os s'.heap):=by
 have B:(R.V os s.heap).le ((R.plus ia).V os s'.heap):=λa o=>And.elim λx=>And.elim λy e=>⟨λq=>q.elim x λm=>bw (C a m) e,y,k a o e⟩;have A:=I.keeps k;exact⟨⟨⟨⟨λa o e=>B a o (I.c.base a o e),λa x=>x.elim (A.c.b a) λm=>⟨M a m,(I.c.fresh (C a m)).2⟩,A.c.n,A.c.l,A.c.e,A.c.nd,A.c.k,A.c.emp,A.c.q,λj L e q=>eK (I.c.slot j L e q) λw H=>aK H λE y=>eK E λl G=>aK G λD F=>⟨w,⟨l,D,F.at λo=>k _ o⟩,y.mono B λa z o=>k a o⟩⟩,A.oK,A.inj,A.E⟩,A.tm⟩,B⟩
def qZ:(Vw (Cc R.X ia) W h).le (Vw R.X W h):=λz z A=>by obtain⟨x,y⟩:=A;exact⟨λq=>x (.inl q),y⟩
def eO.drop(I:eO (R.plus ia) os en s):eO R os en s:=
 ⟨⟨λa o e=>qZ (R:=R) a o (I.c.base a o e),λa x=>I.c.b a (.inl x),I.c.n,I.c.l,I.c.e,I.c.nd,I.c.k,I.c.emp,I.c.q,λj A e q=>eK (I.c.slot j A e q) λw B=>aK B λx y=>⟨w,x,y.mono (qZ (R:=R)) λz z z e=>e⟩⟩,I.oK,I.inj,I.E⟩
def bo.moved(I:bo R os en s)(C:∀a∈ia,R.X a)(A:kr ia s.heap s'.heap)(D:∀a∈ia,∃o,s'.heap.get? a=some o):bo R os en s':=by
 have B:∀i l,R.cx i=some l->l.b∉ia:=λi l e m=>(I.c.b _ (C _ m)).2 (.inr (.inl ⟨i,l,e,rfl⟩));exact⟨⟨I.c.moved (Z:=(· ∈ia)) C (λa o=>A a o) D λi v=>kE λl=>And.elim λe h=>⟨l,e,h.at λo=>A _ o (B i l e)⟩,λi l e=>(I.oK i l e).at λo=>A _ o (B i l e),I.inj,I.E⟩,I.tm⟩
def bo.ended(I:bo (R.plus ia) os en s)(L:∀a∈ia,¬R.X a)(A:kr ia s.heap s'.heap):bo R os en s':=by
 have B:∀{a},R.W os a->a∉ia:=λw m=>(I.c.b _ (.inr m)).2 w;have C:∀{a},a∉ia->(∃o,s.heap.get? a=some o)->∃o,s'.heap.get? a=some o:=λn=>kE λo e=>⟨o,A _ o n e⟩;have E:((R.plus ia).V os s.heap).le (R.V os s'.heap):=λa o=>And.elim λx=>And.elim λy e=>⟨λq=>x (.inl q),y,A a o (λm=>x (.inr m)) e⟩;have F:∀i l,R.cx i=some l->l.b∉ia:=λi l e=>B (.inr (.inl ⟨i,l,e,rfl⟩));refine⟨⟨⟨λa o e=>E a o (I.c.base a o e),λa x=>⟨C (λm=>L a m x) (I.c.b a (.inl x)).1,(I.c.b a (.inl x)).2⟩,λp G=>Ns.at (I.c.n p G) λo=>A _ o (B (.inl ⟨p,G,rfl⟩)),λa x=>⟨C (B (.inr (.inl x))) (I.c.l a x).1,(I.c.l a x).2⟩,I.c.e,I.c.nd,I.c.k,I.c.emp,λa m=>C (B (.inr (.inr ⟨_,m⟩))) (I.c.q a m),λj M e q=>?_⟩,λi l e=>(I.oK i l e).at λo=>A _ o (F i l e),I.inj,I.E⟩,I.tm⟩;obtain⟨w,⟨l,D,H⟩,y⟩:=I.c.slot j M e q;exact⟨w,⟨l,D,H.at λo=>A _ o (F j l D)⟩,y.mono E λa m o=>A a o (B (.inr (.inr ⟨j,m⟩)))⟩
def Le.moved(l:Le R os s0 os' s1)(I:bo (R.plus ia) os' en s1)(D:∀a∈ia,s0.heap.get? a=none)(A:kr ia s1.heap s2.heap)(C:fb s1 s2):Le R os s0 os' s2:=
 ⟨λa o n e=>aK (l.f a o n e) λE F=>⟨A a o (λm=>bw (D a m) e) E,F⟩,l.m.trans C,λi q B v e h=>(l.k i q B v e h).at λo=>A _ o λm=>(I.c.b _ (.inr m)).2 (.inr (.inl ⟨i,B,e,rfl⟩))⟩
def Le.under(l:Le (R.plus ia) os s1 os' s2):Le R os s1 os' s2:=⟨l.f,l.m,l.k⟩
def uS.plus(h:uS R):uS (R.plus ia):=⟨h.kp,h.st,h.top,h.nf,h.b⟩
inductive E8(S:cZ):List Nat->Bool->Expr->Prop
 |dI {x e} (h:dn S x e):E8 S [x] false e
 |tup {xs ts c p} (h:aT (dn S) xs ts):E8 S xs true (.Tuple ts c p)
def xH(I:bo R os en s)(D:∀x∈tg,yQ R x)(C:E8 S tg tup t)(r:cf S.g (R.V os s.heap) val v)(h:aN tg tup v en= .oK en')(G:∀os' s',Le R os s os' s'->bo R os' en' s'->Q () s'):wpAny (model S.g.prog S.g.w) R.A (assign t R.ah val) Q E s:=by
 cases C with
 |dI O=>
  refine bB λU B=>?_;obtain⟨Y,p,rfl,_,L⟩:=O;obtain⟨W,h⟩:=jv (show cJ [_] [.h v] en= .oK en' from h);cases h;exact B (wpAny_assign_Name (kY I.toeO (D _ (.head _)) L (o1:=[]) (o2:=[]) (by rw[I.tm];exact .refl _) (.f (.v r)) W λN M F X=>G N M F.le ⟨X,F.tm⟩))
 |tup C=>
  refine bB λU B=>?_;obtain⟨k,l,rfl,H,P⟩:=uG h;refine B ?_;rw[PyProof.Rows.assign_Tuple];exact wpAny_bind (wpAny_standAt (qd D C I H r P G))
inductive Ni(R:aU S)(ia:List Addr)(St:List AV->cR->Heap->Prop){β:Type}(step:List AV->List SV->aD β)(r:aD β)(os:aJ)(s₀:Shared)(m:Nat)(s':Shared):Prop
 |mk (os':aJ) (en':List SV) (rest:List AV) (le:Le R os s₀ os' s') (I:bo (R.plus ia) os' en' s') (st:St rest ((R.plus ia).V os' s'.heap) s'.heap) (e:rest.length=m) (h:step rest en'=r)
def HQ(P:uS R)(Jm:∀x∈tg,S.lo<=x)(ht:E8 S tg tup t){H:List AV->cR->Heap->Prop}(D:pB S.g R.A t it ia H)(i:∀a∈ia,s0.heap.get? a=none)(O:∀a∈ia,¬R.X a)(l0:Le R os s0 os s)(I:bo (R.plus ia) os en s)(st:H items ((R.plus ia).V os s.heap) s.heap)
 (hb:SL S b bs):Wt S.g R.A (runOwn (.forLoop t (.ref it) bs [] R.ah) R.ah) s (forLoop (aN tg tup) (λah=>aG S.G S.call b ah) items en) (λb v s'=>JP R os s0 (PS R) b v s') (XE R (R.W os) s0):=by
  refine tq P λZ=>?_;refine codeAny_forLoop_any (Ni R ia H (forLoop (aN tg tup) λah=>aG S.G S.call b ah) (forLoop (aN tg tup) (λah=>aG S.G S.call b ah) items en) os s0) (λm s1 q=>?_) _ ⟨os,en,items,l0,I,st,rfl,rfl⟩;generalize hr:forLoop (aN tg tup) (λah=>aG S.G S.call b ah) items en=r at Z q|-;obtain⟨N,u4,B,l1,M,k,l,E⟩:=q
  induction B using cF with
  |nil=>
   cases E;exact D.done Vw.at k λs2 F U=>wpAny_execs_nil ⟨N,l1.moved M i F U,.a (M.ended O F)⟩
  |cons v B=>
   change((aN tg tup v u4).i λah=>(aG S.G S.call b ah).i λx=>match x.1 with |.C w=>.oK (.C w,x.2)|_ =>forLoop (aN tg tup) (λah=>aG S.G S.call b ah) B x.2)=r at E
   refine D.a Vw.at k λj s2 P9=>P9 λL F U nv JZ=>?_;have I3:=M.moved (λJ m=>.inr m) F (D.live JZ);have u:((R.plus ia).V N s1.heap).le ((R.plus ia).V N L.heap):=λa o=>And.elim λx=>And.elim λy e=>⟨x,y,F a o (λm=>x (.inr m)) e⟩
   induction NT:aN tg tup v u4 using Mine.bf with
   |aA=>rw[NT]at E;exact absurd E.symm Z
   |bG=>exact absurd NT pg
   |oK wc=>
    rw[NT]at E
    change((aG S.G S.call b wc).i λx=>match x.1 with |.C w=>.oK (.C w,x.2)|_ =>forLoop (aN tg tup) (λah=>aG S.G S.call b ah) B x.2)=r at E
    refine xH (R:=R.plus ia) I3 (λx m=>P.plus.a (Jm x m)) ht (nv _ u λa o n e=>M.c.new n e:cf S.g ((R.plus ia).V N L.heap) j v) NT λWb s6 h I6=>?_;have z:=(l1.moved M i F U).trans h.under;have C:=hb (R.plus ia) P.plus I6
    induction O:aG S.G S.call b wc using Mine.bf with
    |aA=>rw[O]at E;exact absurd E.symm Z
    |bG=>
     rw[O]at E C;exact wpAny_mono C (λJ J x=>x.elim) λe s' x=>oq P E.symm (XE.from (R:=R) z.f z.m x)
    |oK bx=>
     rw[O]at E C;refine wpAny_mono C (λfl s' q=>?_) λJ J x=>x.elim;obtain⟨Q,l7,p⟩:=q;have Y:=z.trans l7.under;have d:=p.1;have DU:=h.trans l7;have Sk:H B ((R.plus ia).V Q s'.heap) s'.heap:=D.frame (D.frame JZ (λa o q=>(u a o q).2.2) u Vw.at λJ J J e=>e:H B ((R.plus ia).V N L.heap) L.heap) Vw.at DU.f.c9 Vw.at (λc hc o e=>(DU.f c o (I3.c.b c (.inr hc)).2 e).1:∀c∈ia,∀o,L.heap.get? c=some o->s'.heap.get? c=some o);obtain⟨f,Js⟩:=bx
     induction f using Mine.Fl.casesOn with
     |a=>obtain⟨rfl,I8⟩:=p.inv;exact⟨B.length,by rw[<-l];exact lH _,Q,Js,B,Y,I8,Sk,rfl,E⟩
     |cont=>obtain⟨_,rfl,tm⟩:=p;exact⟨B.length,by rw[<-l];exact lH _,Q,Js,B,Y,⟨d,tm⟩,Sk,rfl,E⟩
     |C w=>
      obtain⟨_,v',rfl,y⟩:=p;cases E;exact⟨Q,Y,d.drop,v',rfl,y.mono (qZ (R:=R)) λJ J J e=>e⟩
inductive QI(R:aU S)(t:Expr)(os:aJ)(b:List AV×List SV)(s:Shared)(v:Value)(s2:Shared):Prop
 |mk (it:Addr) (ia:List Addr) (St:List AV->cR->Heap->Prop) (e:v= .ref it) (bd:b.1.length<=dF) (D:pB S.g R.A t it ia St) (k:s.heap.StaysIn s2.heap) (sm:fb s s2) (hn:∀a∈ia,s.heap.get? a=none) (lv:∀a∈ia,∃o,s2.heap.get? a=some o) (st:∀V:cR,(R.V os s.heap).le V->V.le (gJ s2.heap)->St b.1 V s2.heap)
def h9(S:cZ)(k:IK)(es:List IE)(en:List SV):aD (List AV×List SV):=(bu S.G S.call es en).i λb=>(aD.d (bz k b.1)).i λA=>.oK (A,b.2)
def PI(R:aU S)(t:Expr)(os:aJ)(s:Shared)(b:List AV×List SV)(v:Value)(s':Shared):Prop:= ∃B C,Le R os s B C/\bo R B b.2 C/\∀E,wpAny (model S.g.prog S.g.w) R.A (pyIter v) (QI R t B b C) E s'
def IX(S:cZ)(k:IK)(t:Expr)(es:List IE)(e:Expr):Prop:=(∀B x,foldedSetIterable e B x=pure x)/\∀(R:aU S) {os:aJ} {en:List SV} {s:Shared},bo R os en s->Wt S.g R.A (eval e R.ah) s (h9 S k es en) (PI R t os s) (XE R (R.W os) s)
def Wt.c(h:Wt g A t s r Q X)(B:∀b v s',Q b v s'->Wt g A (k v) s' (f b) C X):Wt g A (t>>=k) s (r.i f) C X:=by
 induction r using Mine.bf with
 |oK b=>
  have B:=λv s'=>B b v s';show Wt g A (t>>=k) s (f b) C X
  induction e:f b using Mine.bf with
  |oK d=>rw[e]at B;exact wpAny_bind (wpAny_mono h B λz z x=>x.elim)
  |bG=>rw[e]at B;exact wpAny_bind (wpAny_mono h B λz z x=>x.elim)
  |aA=>trivial
 |bG=>exact wpAny_bind (wpAny_mono h (λz z x=>x.elim) λz z x=>x)
 |aA=>trivial
def J.Z{k:α->Sem F}
 (imp:∀(C:F->Shared->Prop) (E:Value->Shared->Prop),wpAny (model S.g.prog S.g.w) R.A t (λa s'=>wpAny (model S.g.prog S.g.w) R.A (k a) C E s') E s->wpAny (model S.g.prog S.g.w) R.A D C E s)
 (h:J R os s t r P) (B:∀os' b v s',Le R os s os' s'->P os' b v s'->Wt S.g R.A (k v) s' (f b) Q (XE R (R.W os) s)):Wt S.g R.A D s (r.i f) Q (XE R (R.W os) s):=by
 induction r using Mine.bf with
 |oK b=>
  have B:=λv s' (x:JP R os s P b v s')=>let⟨os',l,p⟩:=x;B os' b v s' l p;show Wt S.g R.A D s (f b) Q _
  induction e:f b using Mine.bf with
  |oK d=>rw[e]at B;exact imp _ _ (wpAny_mono h B λz z x=>x.elim)
  |bG=>rw[e]at B;exact imp _ _ (wpAny_mono h B λz z x=>x.elim)
  |aA=>trivial
 |bG=>exact imp _ _ (wpAny_mono h (λz z x=>x.elim) λz z x=>x)
 |aA=>trivial
def Wt.step(h:wpAny (model g.prog g.w) A t (λa s'=>Wt g A (k a) s' r Q X) (λz z=>False) s):Wt g A (t>>=k) s r Q X:=by
 induction r using Mine.bf with
 |oK b=>exact wpAny_bind (wpAny_mono h (λz z x=>x) λz z x=>x.elim)
 |bG=>exact wpAny_bind (wpAny_mono h (λz z x=>x) λz z x=>x.elim)
 |aA=>trivial
def S1.l(j:E8 S tg tup t)(Z:∀x∈tg,S.lo<=x)(H:IX S kd t es it)(Q:SL S body bs):S1 S (.l tg tup kd es body) (.For t it bs [] pos):=λR X os en s I=>by
 rw[exec_For]
 have e:eG S.G S.call (.l tg tup kd es body) en=(h9 S kd es en).i λx=>forLoop (aN tg tup) (λB=>aG S.G S.call body B) x.1 x.2:=by
  show((bu S.G S.call es en).i λb=>(aD.d (bz kd b.1)).i λA=>forLoop (aN tg tup) (λB=>aG S.G S.call body B) A b.2)=_
  unfold h9;rw[aE]
  congr 1;funext x
  rw[aE];rfl
 rw[e];refine J.h (Wt.c (H.2 R I) λb v s' Y=>eK Y λd U=>eK U λr W=>aK W λE u=>aK u λF q=>?_);rw[H.1];refine Wt.step (wpAny_pure (Wt.step (wpAny_standAt (Wt.step (wpAny_holding (wpAny_mono (q _) (λg l q=>?_) λK K x=>x))))));obtain⟨P,ia,z,rfl,_,D,k,N,C,y,M⟩:=q;obtain⟨w,O⟩:=F.lend k C y;exact Wt.mono (HQ X Z j D C (λa m x=>eK ((F.c.b a x).1) λo e=>bw (C a m) e) (.b k N) w (M _ O Vw.at) Q) (λK K K=>JP.a λV L p=>⟨V,E.trans L,p⟩) λK K x=>XE.from (R:=R) E.f E.m x
end
section
variable {g:Gd}{A:Around}
def j9{l:List α}(h:v::r=l.drop i):A3 (l[i]? =some v) (r=l.drop (i+1)) (i<l.length):=by
 have B:i<l.length:=by
  refine Nat.lt_of_not_le λq=>?_;rw[List.drop_eq_nil_of_le q]at h;cases h
 rw[List.drop_eq_getElem_cons B]at h;cases h;exact⟨ij B,rfl,B⟩
def drop_nil{l:List α}(h:[]=l.drop i):l.length<=i:=List.drop_eq_nil_iff.mp h.symm
def Ay(H:s.heap.get? it=some o)(F:o.cls= .type T)
 (G:["enumerate","zip","dict_itemiterator","dict_reverseitemiterator","odict_iterator","itertools.zip_longest","itertools.pairwise"].contains T=false) (C:Q () s):wpAny (model g.prog g.w) A (letOwnedTupleGo (.Tuple es c p) (.ref it) val) Q E s:=by
 induction val using PySem.Value.casesOn with
 |ref a=>
  refine wpAny_bind (wpAny_load H ?_);obtain⟨cls,D,B⟩:=o;cases F
  induction B using PySem.Data.casesOn with
  |fields I=>exact(congrArg (λm=>wpAny (model g.prog g.w) A m Q E s) (if_neg λh=>fO (G.symm.trans (jo.mp h).1))).mpr (wpAny_pure C)
  |_ =>exact wpAny_pure C
 |_ =>exact wpAny_pure C
def oB(F:s.heap.get? it=some o)(G:o.cls= .type T)
 (D:["enumerate","zip","dict_itemiterator","dict_reverseitemiterator","odict_iterator","itertools.zip_longest","itertools.pairwise"].contains T=false) (C:Q () s):wpAny (model g.prog g.w) A (letOwnedTupleGo b9 (.ref it) val) Q E s:=by
 induction b9 using PySem.Expr.casesOn with
 |Tuple B c p=>exact Ay F G D C
 |List B p=>exact Ay (es:=B) (c:=0) (p:=p) F G D C
 |_ =>exact wpAny_pure C
def w4(k:∀b o,b≠it->h.get? b=some o->h'.get? b=some o):kr [it] h h':=λb o B=>k b o λq=>B (dN.mpr q)
inductive Ru(g:Gd)(ob:Array Value->Nat->Obj)(Is:Heap->Nat->Prop)(l:Addr)(items:List AV)(V:cR)(h:Heap):Prop
 |mk (i:Nat) (aj:List AV) (arr:Array Value) (n:Nat) (e:items=aj.drop i) (q:V l (ob arr n)) (r:cm g V arr.toList aj) (it:Is h i)
def pB.seq(u:["enumerate","zip","dict_itemiterator","dict_reverseitemiterator","odict_iterator","itertools.zip_longest","itertools.pairwise"].contains T=false)
 (N:∀{h i},Is h i->∃o,h.get? it=some o/\o.cls= .type T) (U:∀{h h' i},Is h i->(∀o,h.get? it=some o->h'.get? it=some o)->Is h' i)
 (hs:∀{s:Shared} {i} {Q:Value->Shared->Prop} {E:Value->Shared->Prop},Is s.heap i->Q (.ref it) s->wpAny (model g.prog g.w) A (pyIter (.ref it)) Q E s)
 (X:∀{s:Shared} {i arr n x} {Q:Option Value->Shared->Prop} {E:Value->Shared->Prop},Is s.heap i->s.heap.get? l=some (O arr n)->arr[i]? =some x->(∀h',Is h' (i+1)->(∀b o,b≠it->s.heap.get? b=some o->h'.get? b=some o)->Q (some x) {s with heap:=h'})->wpAny (model g.prog g.w) A (pyNext (.ref it)) Q E s)
 (hd:∀{s:Shared} {i arr n} {Q:Option Value->Shared->Prop} {E:Value->Shared->Prop},Is s.heap i->s.heap.get? l=some (O arr n)->arr[i]? =none->(∀h',(∀b o,b≠it->s.heap.get? b=some o->h'.get? b=some o)->Q none {s with heap:=h'})->wpAny (model g.prog g.w) A (pyNext (.ref it)) Q E s):pB g A b9 it [it] (Ru g O Is l)where
 self:=λB F=>by obtain⟨i,D,arr,n,_,_,_,C⟩:=B;exact hs C F
 live:=λB b Y=>by
  obtain⟨i,D,arr,n,_,_,_,C⟩:=B;cases dN.mp Y;obtain⟨o,H,_⟩:=N C;exact⟨o,H⟩
 frame:=λB J m J h=>by
  obtain⟨i,D,arr,n,e,q,r,C⟩:=B;exact⟨i,D,arr,n,e,m _ _ q,r.mono m,U C (h it (.head _))⟩
 a:=λ{v r V s Q E} L B F=>by
  refine bB λp R=>?_;obtain⟨i,D,arr,n,e,q,G,C⟩:=B;obtain⟨S,rfl,_⟩:=j9 e;obtain⟨M,Z,j⟩:=G.get S;refine R (X C (L _ _ q) (x:=M) (by rw[<-mH];exact Z) λh' P I=>F _ _ λ{k z} y=>?_);obtain⟨o,H,W⟩:=N P;exact oB H W u (y _ (w4 I) ⟨rfl,rfl⟩ (.ir j) ⟨i+1,D,arr,n,rfl,q,G,P⟩)
 done:=λ{V s Q E} L B F=>by
  obtain⟨i,D,arr,n,e,q,G,C⟩:=B;exact hd C (L _ _ q) (Array.getElem?_eq_none (by rw[bX G];exact(drop_nil e))) λh' I=>F _ (w4 I) ⟨rfl,rfl⟩
def pB.list(M:A.handled=none):pB g A b9 it [it] (Ru g listOf (λh i=>h.IsListIter it l i) l):=
 pB.seq (T:="list_iterator") (by decide) (kE λo=>And.elim λC=>And.elim λL z=>⟨o,C,L⟩) (λO k=>eK O λo N=>aK N λC r=>⟨o,k o C,r⟩)
  wpAny_pyIter_listiter
  (λB G F H=>wpAny_pyNext_list_item B (aQ G) F λE P I=>H E P λb o D e=>I.extBut b o D e)
  (λB G F H=>wpAny_pyNext_list_end M B (aQ G) F λE I=>H E λb o D e=>I b o D e)
def pB.tup(M:A.handled=none):pB g A b9 it [it] (Ru g de (λh i=>IsTupIter h it l i) l):=
 pB.seq (T:="tuple_iterator") (by decide) (kE λo=>And.elim λC=>And.elim λL z=>⟨o,C,L⟩) (λN k=>by obtain⟨o,C,r⟩:=N;exact⟨o,k o C,r⟩)
  wpAny_pyIter_tupleiter
  (λB G F H=>next_tuple_item B (bY G) F λE O I=>H E O λb o D e=>I.extBut b o D e)
  (λB G F H=>next_tuple_end M B (bY G) F λE I=>H E λb o D e=>I b o D e)
inductive Ym(it:Addr)(items:List AV)(V:cR)(h:Heap):Prop
 |mk (x left:Int) (e:items=d9 (Int.toNat left) x) (q:IsRangeIter h it x left 1)
def tc(h:v::r=d9 n x):v= .m x/\∃m,n=m+1/\r=d9 m (x+1):=by
 induction n using dU with
 |zero=>cases h
 |succ m=>cases h;exact⟨rfl,m,rfl,rfl⟩
def pB.range(M:A.handled=none):pB g A b9 it [it] (Ym it)where
 self:=λB F=>by obtain⟨x,left,_,C⟩:=B;exact wpAny_pyIter_rangeiter C F
 live:=λB b D=>by
  obtain⟨x,left,_,C⟩:=B;cases dN.mp D;exact⟨_,C⟩
 frame:=λB z z z h=>by
  obtain⟨x,left,e,C⟩:=B;exact⟨x,left,e,h it (.head _) _ C⟩
 a:=λ{v r V s Q E} z B F=>by
  refine bB λS L=>?_;obtain⟨x,left,e,C⟩:=B;obtain⟨rfl,m,I,rfl⟩:=tc e;exact L (wpAny_pyNext_range_item C (zP I) λN H G=>F _ _ λ{R P} O=>(oB (T:="range_iterator") H rfl (by decide) (O _ (w4 λb o D e=>G.extBut b o D e) ⟨rfl,rfl⟩ (.ir (aZ.m _ _)) ⟨x+1,left-1,by rw[show(left-1).toNat=m from UH I],H⟩)))
 done:=λ{V s Q E} z B F=>by
  obtain⟨x,left,e,C⟩:=B
  have:left<=0:=by
   induction q:left.toNat using dU with
   |zero=>exact Int.toNat_eq_zero.mp q
   |succ m=>rw[q]at e;cases e
  exact wpAny_pyNext_range_end M C this λN G=>F _ (w4 λb o D e=>G b o D e) ⟨rfl,rfl⟩
end
noncomputable def rn(e:Expr):Bool:=e.ctorIdx !=7
def t8(h:rn e=true)(ah)(x):foldedSetIterable e ah x=pure x:=by
 cases e<;>first |rfl |cases h
def d4{h:Heap}(k:h.objs.size<=a):h.get? a=none:=c8 λo e=>absurd (Heap.lt_size e) (eH.mpr k)
section
variable {S:cZ}{R:aU S}{os os':aJ}{en en':List SV}{s s':Shared}
def IX.h(X:SE S a x)(Q:rn x=true):IX S .h t [a] x:=by
 refine⟨t8 Q,λR os en s I=>?_⟩;show Wt S.g R.A _ s ((bu S.G S.call [a] en).i λb=>(aD.d (bz .h b.1)).i λB=>.oK (B,b.2)) _ _;rw[pX];have C:=X R I
 induction hr:ev S.G S.call a en using Mine.bf with
 |aA=>trivial
 |bG=>rw[hr]at C;exact C
 |oK b=>
  rw[hr]at C;show Wt S.g R.A _ s ((aD.d (bz .h [b.1])).i λB=>.oK (B,b.2)) _ _
  induction e1:bz .h [b.1]using aF with
  |none=>trivial
  |some w=>
   refine dg (show((dT b.1).bind λq=>if q.1<2 then some q.2 else none)=some w from e1) λY P U=>?_;obtain⟨k,l⟩:=Y;refine lr U λN e4=>?_;cases e4;refine wpAny_mono C (λv s'=>JP.a λos' O=>And.elim λW r=>⟨os',s',O,W,λE=>?_⟩) λz z x=>x;have r:cf S.g (R.V os' s'.heap) v (.n k l):=eQ P▸r;have F:∀a∈[s'.heap.objs.size],s'.heap.get? a=none:=iE.mpr bJ;rcases lV N with rfl |rfl
   ·obtain⟨c,D,n,rfl,H,M,L⟩:=r.tup;exact iter_tuple (bY H.2.2) ⟨_,_,_,rfl,L,pB.tup R.r,aI,⟨rfl,rfl⟩,F,iE.mpr ⟨_,ib _ rfl⟩,λV m z=>⟨0,l,D,n,rfl,m _ _ H,M.mono m,_,ib _ rfl,rfl,rfl⟩⟩
   ·obtain⟨c,D,n,rfl,H,M,L⟩:=r.aj;exact wpAny_pyIter_list (aQ H.2.2) ⟨_,_,_,rfl,L,pB.list R.r,aI,⟨rfl,rfl⟩,F,iE.mpr ⟨_,ib _ rfl⟩,λV m z=>⟨0,l,D,n,rfl,m _ _ H,M.mono m,_,ib _ rfl,rfl,rfl⟩⟩
def wx(E:dX S nm (.type T))(B:aT (SA S) es vs)(I:bo R os en s)
 (D:∀{os' vals ws en' s'},Le R os s os' s'->bo R os' en' s'->cm S.g (R.V os' s'.heap) vals ws->ws.length=es.length->Wt S.g R.A (PySem.call (.type T) vals []) s' (f (ws,en')) Q (XE R (R.W os) s)):Wt S.g R.A (eval (.Call (.Name nm np) vs [] p) R.ah) s ((bu S.G S.call es en).i f) Q (XE R (R.W os) s):=by
 show Wt S.g R.A (eval (.Name nm np) R.ah>>=λf=>callWith p f [] (backTo p (starEach vs R.ah)) []) s _ _ _;refine Wt.step (dZ I E ?_);have C:=gL (p:=p) (ah:=R.ah) B;exact J.Z (λz z h=>PySem.callWith_type C.1 (d5 C.2 h)) (iY B R I) λz b z z l=>And.elim λp n=>D l p.1 p.2 n
def Wt.some(h:∀w,o=some w->Wt g A t s (f w) Q X):Wt g A t s ((aD.d o).i f) Q X:=by
 induction o using aF with
 |none=>trivial
 |some w=>exact h w rfl
theorem oh:∀{n:Nat} {k:Int},(d9 n k).length=n
 |0,_ =>rfl
 |n+1,_ =>congrArg Nat.succ (oh (n:=n))
def nZ(h:n.natAbs<=10000):Builtin.Range.small 0 n 1=true:=small_one (by decide) (by decide) (UJ h) (UI h)
def size_range:(Builtin.Range.rangeSize 0 n 1).toNat=n.toNat:=by
 rw[rangeSize_nat];rw[Int.sub_zero];rfl
def IX.range{t:Expr}(O:SA S a x)(F:dX S nm (.type "range")):IX S .range t [a] (.Call (.Name nm np) [x] [] p):=by
 refine⟨λz z=>rfl,λR os en s I=>?_⟩;refine wx F (.u O .j) I (f:=λb=>(aD.d (bz .range b.1)).i λA=>.oK (A,b.2)) λ{os' B P en' s'} l M r n=>Wt.some λA N=>?_;obtain⟨v,w,rfl,rfl,G⟩:=rep1 r n;refine dg (show((FP w).bind λn=>if n.natAbs<=10000 then some (d9 n.toNat 0)else none)=some A from N) λi D H=>?_;refine lr H λC L=>?_;cases L;obtain⟨u,rfl⟩:=(jE D▸G).m;refine call_range_1 ⟨os',s',l,M,λE=>wpAny_pyIter_range (ib _ rfl) (nZ C) ?_⟩;exact⟨_,_,_,rfl,by rw[oh];exact az (Int.toNat_le.mpr (Int.le_trans Int.le_natAbs (Int.ofNat_le.mpr C))) (show 10000<=dF by decide),pB.range R.r,λb o e=>aI b o ((aI:s'.heap.StaysIn (s'.heap.push {cls:=.type "range",data:=.fields #[.int 0 s'.toks,.int i u,.int 1 (s'.toks+1)]})) b o e),⟨rfl,rfl⟩,iE.mpr (d4 (by rw[Heap.size_push];exact Nat.le_succ _)),iE.mpr ⟨_,ib _ rfl⟩,λV z z=>⟨0,_,by rw[size_range],ib _ rfl⟩⟩
end
section
variable {g:Gd}{A:Around}
def Cd.pair(C:h.get? a=none)(F:h'.get? a=some (de #[v1,v2] n))(r1:cf g V v1 D)(E:cf g V v2 G):Cd g V h h' (.ref a) (.tup [D,G]):=λz m B=>
 .d (arr:=#[v1,v2]) (B _ _ C F) (.u (r1.mono m) (.u (E.mono m) .j)) (show 2<=dF by decide)
theorem mC:∀{l:List AV} {k:Int},(i8 k l).length=l.length
 |[],_ =>rfl
 |_ ::l,_ =>congrArg Nat.succ (mC (l:=l))
def v_(h:v::r=i8 k B):kO (λw t=>B=w::t) (λw t=>v= .tup [.m k,w]) (λw t=>r=i8 (k+1) t):=by
 induction B using cF with
 |nil=>cases h
 |cons w t=>cases h;exact⟨w,t,rfl,rfl,rfl⟩
inductive Yn(e it:Addr)(Ct:List AV)(V0:cR)(St:Nat->Heap->Prop)(items:List AV)(V:cR)(h:Heap):Prop
 |mk (i:Nat) (ir:Value) (q:items=i8 i (Ct.drop i)) (hi:i<=Ct.length) (he:IsEnum h e it i ir) (st:St i h) (k:V0.le V)
def pB.d{Y:Nat->Heap->Prop}(D:Draws g.prog g.w A.in1 it j L.length P Y)(l:e≠it)(y:e∉j)
 (p:∀i v,P i v->∃w,L[i]? =some w/\cf g V0 v w) (Xm:∀b∈j,b=it\/∃o,V0 b o):pB g A (.Tuple ts c tp) e [e,it] (Yn e it L V0 Y)where
 self:=λB H=>by obtain⟨i,G,_,_,C,_,_⟩:=B;exact wpAny_pyIter_enum C H
 live:=λB b hb=>by
  obtain⟨i,G,_,_,C,B,_⟩:=B;rcases iZ.mp hb with rfl |hb
  ·exact⟨_,C⟩
  ·cases dN.mp hb;exact D.live _ _ B
 frame:=λ{R V V' h I} B O k Ta W=>by
  obtain⟨i,G,q,M,C,B,F⟩:=B;refine⟨i,G,q,M,W e (.head _) _ C,D.frame i h I B λb hb o Z=>?_,λb o e=>k b o (F b o e)⟩;rcases Xm b hb with rfl |⟨o',X⟩
  ·exact W b (.tail _ (.head _)) o Z
  ·cases Z.symm.trans (O _ _ (F _ _ X));exact Ta _ _ (k _ _ (F _ _ X))
 a:=λ{v r V s Q E} O B H=>by
  refine bB λP0 N=>?_;obtain⟨i,G,q,M,C,B,F⟩:=B;obtain⟨w,t,m,rfl,rfl⟩:=v_ q;obtain⟨e2,rfl,u⟩:=j9 m.symm;refine N (wpAny_pyNext_enum_itemD D C B u l y λx I tk px HK Vg ht HA d=>H _ _ λ{Q2 E2} Qn=>?_);refine wpAny_letOwnedTupleGo_enum HK λh2 f U=>?_;refine bB λP0 N=>?_;obtain⟨w',e3,n⟩:=p i x px;cases e2.symm.trans e3;have S:∀b o,b≠e->I.get? b=some o->h2.get? b=some o:=λb o hb q=>(U.2 b hb).trans q;exact N (Qn _ (λb o hb q=>(S b o (λz=>hb (z▸.head _)) (d b o (λz=>hb (z▸.head _)) (λz=>hb (z▸.tail _ (.head _))) q))) ⟨rfl,rfl⟩ (.pair (a:=s.heap.objs.size) bJ (S _ _ (Nat.ne_of_gt (Heap.lt_size C:e<s.heap.objs.size)) ht) (aZ.m _ _) (n.mono F)) ⟨i+1,x,rfl,u,f,D.frame _ _ _ Vg λb hb o q=>S b o (λz=>y (z▸hb)) q,F⟩)
 done:=λ{V s Q E} O B H=>by
  obtain⟨i,G,q,M,C,B,F⟩:=B
  have:i=L.length:=by
   induction q2:L.drop i using cF with
   |nil=>exact Nat.le_antisymm M (List.drop_eq_nil_iff.mp q2)
   |cons a t=>rw[q2]at q;cases q
  subst this;exact wpAny_pyNext_enum_endD D C B λI U=>H _ (λb o hb q=>U b o (λz=>hb (z▸.tail _ (.head _))) q) ⟨rfl,rfl⟩
end
section
variable {S:cZ}{R:aU S}{os os':aJ}{en en':List SV}{s s':Shared}
def pG{g:Gd}(B:A.handled=none)(it)(x)(t):Draws g.prog g.w A it [it] (F2 x).length (λi v=> ∃c u,x.cps[i]? =some c/\v= .str ⟨#[c]⟩ u) (λi h=>h.IsStrIter it (strIterType x) x t i):=by
 rw[(by unfold F2;rw[cz,mF]:(F2 x).length=x.cps.size)];unfold strIterType
 split
 ·exact Draws.strAscii B it x t
 ·exact Draws.strWide B it x t
def IX.d{ts:List Expr}(ha:SA S a x)(hn:dX S nm (.type "enumerate")):IX S .d (.Tuple ts c tp) [a] (.Call (.Name nm np) [x] [] p):=by
 refine⟨λJ J=>rfl,λR os en s I=>?_⟩;refine wx hn (.u ha .j) I (f:=λb=>(aD.d (bz .d b.1)).i λB=>.oK (B,b.2)) λ{os' j ws en' s'} l h r n=>Wt.some λB F=>?_;obtain⟨v,w,rfl,rfl,t⟩:=rep1 r n;have C:∀a∈[s'.heap.objs.size+1,s'.heap.objs.size],s'.heap.get? a=none:=cu.mpr ⟨d4 (Nat.le_succ _),iE.mpr bJ⟩;have G:∀{L:Heap},(∃o,L.get? (s'.heap.objs.size+1)=some o)->(∃o,L.get? s'.heap.objs.size=some o)->∀a∈[s'.heap.objs.size+1,s'.heap.objs.size],∃o,L.get? a=some o:=λl1 l2=>cu.mpr ⟨l1,iE.mpr l2⟩
 induction w using Mine.AV.casesOn with
 |n k z=>
  match k,F with
  |1,F=>
   cases F;obtain⟨d,Q,m,rfl,h1,Y,M⟩:=t.aj;have X:=h1.2.2;have y:d<s'.heap.objs.size:=Heap.lt_size X;have D:=Draws.list (prog:=S.g.prog) (w:=S.g.w) (A:=R.A.in1) R.r s'.heap.objs.size d (Nat.ne_of_lt y) Q;rw[(bX Y)]at D;refine call_enumerate_list (aQ X) λL H N q3 q4=>⟨os',s',l,h,λE=>wpAny_pyIter_enum H ?_⟩;refine⟨_,_,_,rfl,(by rw[mC];exact M:(i8 0 z).length<=dF),pB.d (V0:=R.V os' s'.heap) D (Nat.ne_of_gt (lH _)) (λZ=>?_) (λi v e=>?_) (λb U=>?_),q4,⟨rfl,rfl⟩,C,G ⟨_,H⟩ (eK N λo W=>aK W λe J=>⟨o,e⟩),λV m J=>⟨0,.none,rfl,da _,H,⟨N,aQ (q4 _ _ X)⟩,m⟩⟩
   ·rcases iZ.mp Z with q |q
    ·exact Nat.succ_ne_self _ q
    ·exact Nat.ne_of_gt (Nat.lt_succ_of_lt y) (dN.mp q)
   ·rw[<-mH]at e;refine bB λP0 P=>?_
    have F:i<z.length:=by rw[<-Y.E];exact aS e
    obtain⟨w,e2,r⟩:=Y.get (ij F);cases e.symm.trans e2;exact P (⟨_,ij F,r⟩)
   ·rcases iZ.mp U with rfl |q
    ·exact .inl rfl
    ·cases dN.mp q;exact .inr ⟨_,h1⟩
 |s c=>
  cases c with
  |j O=>
   refine bB λP0 P=>?_;refine lr (show(if O.length<=1000 then some (i8 0 (F2 O))else none)=some B from F) λM F=>?_;cases F
   have M:(i8 0 (F2 O)).length<=dF:=by
    rw[mC];unfold F2;rw[cz,mF];exact az M (by decide)
   obtain⟨u,rfl⟩:=t.j;refine P (call_enumerate_str λL H N q3 q4=>⟨os',s',l,h,λE=>wpAny_pyIter_enum H ?_⟩);refine⟨_,_,_,rfl,M,pB.d (V0:=R.V os' s'.heap) (pG (A:=R.A.in1) R.r s'.heap.objs.size O u) (Nat.ne_of_gt (lH _)) (λZ=>?_) (λi v e=>?_) (λb U=>?_),q4,⟨rfl,rfl⟩,C,G ⟨_,H⟩ (eK N λo W=>aK W λe J=>⟨o,e⟩),λV m J=>⟨0,.none,rfl,da _,H,N,m⟩⟩
   ·exact Nat.succ_ne_self _ (dN.mp Z)
   ·obtain⟨ch,u',e,rfl⟩:=e;refine⟨.j ⟨#[ch]⟩,?_,aZ.j _ _⟩;unfold F2;rw[di,mH,e];rfl
   ·exact .inl (dN.mp U)
  |_ =>cases F
end
structure Sets(g:Gd)(c:Nat)(nm:Str):Prop where
 hs:findIn g.K (.ref (g.cls c)) "__setattr__" =some (some (.builtin "object.__setattr__"))
 hp:plainOver g.K (g.cls c)=true
 ht:takerIn g.K (g.cls c) nm=some none
 hh:hasDictIn g.K (g.cls c)=true
theorem putL_new:∀{es:List DictEntry},(∀e∈es,e.key.isStr nm=false)->putL nm h k v es=es++[⟨h,k,v⟩]
 |[],_ =>rfl
 |e::r,hn=>by
  unfold putL;rw[if_neg (by rw[hn e (.head _)];exact fO),putL_new λe m=>hn e (.tail _ m)];rfl
section
variable {S:cZ}{R:aU S}{os os':aJ}{en en':List SV}{s s':Shared}
def u6(X:g.K.In s.heap)(D:Sets g c nm)(h1:s.heap.get? x=some (instObj (g.cls c) B))(C:s.heap.get? B=some (dictOf es n))(G:∀e∈es,e.key.isStr nm=false/\e.refKey=false)(H:es.length<1000)
 (h:∀h' O,(∀a o,a≠B->s.heap.get? a=some o->h'.get? a=some o)->h'.get? B=some (dictOf (es++[⟨PyData.keyHash g.w.params nm,.str nm (s.toks+1),v⟩]) O)->Q () {s with heap:=h',toks:=s.toks+2}):wpAny (model g.prog g.w) A (setAttr (.ref x) nm v) Q E s:=by
 have I:InstAt s.heap x (instObj (g.cls c) B) (g.cls c) (some (dictOf es n)):=⟨h1,rfl,rfl,C⟩;refine set_plain X I D.hs (osa_open (s:={s with toks:=s.toks+1}) X I D.hp D.ht λb=>?_);obtain⟨P,M,N⟩:=any_some D.hh
 have e:Obj.putName nm (PyData.keyHash g.w.params nm) (.str nm (s.toks+1)) v (dictOf es n)=dictOf (es++[⟨PyData.keyHash g.w.params nm,.str nm (s.toks+1),v⟩]) (putN nm es n):=by
  rw[putName_dict,putL_new λe m=>(G e m).1]
 have F:=Heap.get?_update_self (Obj.putName nm (PyData.keyHash g.w.params nm) (.str nm (s.toks+1)) v) C (by rw[e];rfl);rw[e]at F;refine wpAny_bind (wpAny_pure (wpAny_bind (wpAny_bind (wpAny_loadPart h1 (wpAny_bind (Looks.here (s:={s with toks:=s.toks+1}) (looks_clsIn X M) ?_))))));rw[N];refine wpAny_pure (a:=some B) (wpAny_bind (wpAny_pure (wpAny_bind ?_)));unfold nsSet;refine wpAny_bind (wpAny_bind (wpAny_askSetting (wpAny_pure (wpAny_bind (wpAny_mkText (wpAny_bind (wpAny_loadPart C ?_)))))))
 dsimp only
 rw[aRefKeyMayBeTheName_at,(by
  rw[show es.toArray.any (·.refKey)=false by rw[List.any_toArray,List.any_eq_false];exact λe m=>by rw[(G e m).2];exact fO,Bool.and_false]:(!es.toArray.any (·.key.isStr nm)&&es.toArray.any (·.refKey))=false)]
 exact wpAny_updatePart C (wpAny_bind (wpAny_lookBehind F (pastItsLine_dict (by rw[List.size_toArray,dc,sizeLine_eq];exact az H (by decide))) (wpAny_pure (h _ _ (λa o L e=>Heap.get?_update_of_ne _ (Ne.symm L) e) F))))
end
section
variable {g:Gd}{O:ie}{X pl:dJ}{hold hold':Nat->Value->Prop}{os:aJ}{en:List SV}{h h':Heap}
def cU.join(I:cU g O X pl hold os en h)(R:x<en.length)(D:en.length<=tI)(L:d∈os x)(k:∀a o,a≠d->h.get? a=some o->h'.get? a=some o)(l:∃o,h'.get? d=some o)(Y:∀j w,hold j w->hold' j w)(W:hold' x v)(c:sv≠.a)
 (y:∀V',(Vw X (Wr O pl os) h).le V'->ki g V' h' v sv (os x++os tI)):Wr O pl ((os.f x (os x++os tI)).f tI [])=Wr O pl os/\cU g O X pl hold' ((os.f x (os x++os tI)).f tI []) (en.set x sv) h':=by
 have M:x≠tI:=λe=>absurd R (eH.mpr (e▸D))
 have F:((os.f x (os x++os tI)).f tI []) x=os x++os tI:=by rw[aJ.b M,aJ.d]
 have E:∀{j},j≠x->j≠tI->((os.f x (os x++os tI)).f tI []) j=os j:=λh h'=>by rw[aJ.b h',aJ.b h]
 have C:∀{j a},a∈((os.f x (os x++os tI)).f tI []) j->(j=x/\(a∈os x\/a∈os tI))\/(j≠x/\j≠tI/\a∈os j):=λm=>by
  rcases aJ.c m with⟨_,m⟩|⟨q,m⟩
  ·cases m
  ·exact(aJ.c m).imp (And.elim λz m=>⟨z,gM.mp m⟩)<|And.elim λz m=>⟨z,q,m⟩
 have N:∀{j a},a∈((os.f x (os x++os tI)).f tI []) j->∃k,a∈os k:=λm=>(C m).elim (λm=>m.2.elim (λm=>⟨_,m⟩) λm=>⟨_,m⟩) λm=>⟨_,m.2.2⟩
 have G:Wr O pl ((os.f x (os x++os tI)).f tI [])=Wr O pl os:=funext λa=>propext ⟨λw=>by
  rcases w with w |w |⟨j,w⟩
  ·exact .inl w
  ·exact .inr (.inl w)
  ·exact .inr (.inr (N w)),λw=>by
  rcases w with w |w |⟨j,w⟩
  ·exact .inl w
  ·exact .inr (.inl w)
  ·refine .inr (.inr ?_)
   by_cases q:j=tI
   ·exact⟨x,by rw[F];exact iI _ (q▸w)⟩
   ·by_cases B:j=x
    ·exact⟨x,by rw[F];exact pq _ (B▸w)⟩
    ·exact⟨j,by rw[E B q];exact w⟩⟩
 have U:∀{a},(∃o,h.get? a=some o)->∃o,h'.get? a=some o:=λ{a} ⟨o,e⟩=>by
  by_cases q:a=d
  ·exact q▸l
  ·exact⟨o,k a o q e⟩
 have V:∀{a},¬Wr O pl os a->a≠d:=λn e=>n (.inr (.inr ⟨x,e▸L⟩));have H:(Vw X (Wr O pl os) h).le (Vw X (Wr O pl os) h'):=λa o=>And.elim λx=>And.elim λy e=>⟨x,y,k a o (V y) e⟩;refine⟨G,λa o e=>?_,λa x=>⟨U (I.b a x).1,G▸(I.b a x).2⟩,λp Q=>Ns.at (I.n p Q) λo=>k _ o λe=>(I.e x d L).1 p Q e,λa x=>⟨U (I.l a x).1,(I.l a x).2⟩,λj a m=>eK (N m) λJ m=>I.e _ a m,λj=>?_,λi j a S m A=>?_,λj P e=>?_,λa m=>absurd m (by rw[aJ.d];exact nofun),λj s e q=>?_⟩
 ·rw[G];exact H a o (I.base a o e)
 ·by_cases q:j=tI
  ·rw[q,aJ.d];exact .nil
  ·by_cases B:j=x
   ·rw[B,F];exact List.nodup_append.mpr ⟨I.nd x,I.nd tI,λa m b A e=>I.k x tI a M m (e▸A)⟩
   ·rw[E B q];exact I.nd j
 ·rcases C m with⟨q,m⟩|⟨q,u,m⟩<;>rcases C A with⟨B,A⟩|⟨B,Z,A⟩
  ·exact S (q.trans B.symm)
  ·exact m.elim (λm=>I.k _ _ a (Ne.symm B) m A) λm=>I.k _ _ a (Ne.symm Z) m A
  ·exact A.elim (λA=>I.k _ _ a q m A) λA=>I.k _ _ a u m A
  ·exact I.k _ _ a S m A
 ·by_cases q:j=x
  ·rw[q,List.getElem?_set_self R]at e;exact(e.elim nofun λe=>c (dG e)).elim
  ·rw[List.getElem?_set_ne (Ne.symm q)]at e;rw[E q P];exact I.emp j P e
 ·rw[G];rcases iL e with⟨rfl,rfl⟩|⟨B,e⟩
  ·rw[F];exact⟨v,W,y _ H⟩
  ·rw[E B (λz=>absurd (aS e) (eH.mpr (z▸D)))];obtain⟨w,x,y⟩:=I.slot j s e q;exact⟨w,Y j w x,y.mono H λa m o=>k a o λz=>I.k _ _ d B (z▸m) L⟩
def dk.snoc(x:dk g V h vs l o)(y:iG g V h v s o'):dk g V h (vs++[v]) (l++[s]) (o++o'):=by
 induction x with
 |j=>
  have:=dk.u y .j
  rwa[List.append_nil]at this
 |u x _ A=>rw[iC];exact .u x A
end
section
variable {S:cZ}{R:aU S}{os os':aJ}{en en':List SV}{s s':Shared}
def vk(h:qg k i en=some l):en[(0:Nat)]? =some (.e k l)/\i=l.length:=by
 refine dg h λE D B=>?_
 induction E using Mine.SV.casesOn with
 |e C A=>
  refine lr (show(if C=k/\i=A.length then some A else none)=some l from B) λF e=>?_;obtain⟨rfl,q⟩:=F;cases e;exact⟨D,q⟩
 |_ =>cases B
def zl(h:SV.toF sv=some sf):sv= .f sf:=by
 induction sv using Mine.SV.casesOn with
 |f s=>cases h;rfl
 |_ =>cases h
def DZ(h:aT (qF g) es B)(C:nm∉B):∀e∈es,e.key.isStr nm=false/\e.refKey=false:=by
 induction h with
 |j=>exact gy _
 | @u e a es B h _ ih=>
  obtain⟨⟨t,A⟩,_⟩:=h;refine cu.mpr ⟨⟨Bool.eq_false_iff.mpr λz=>?_,by unfold DictEntry.refKey;rw[A]⟩,ih λm=>C (.tail _ m)⟩;rw[A]at z;exact C (beq_iff_eq.mp z▸.head _)
def S1.E(h:y5 S own a e)(hc:g6 e=true)(t:k=c+2)(hb:dn S 0 b)(q:(S.g.fld c)[i]? =some nm)(hs:Sets S.g c nm)(TM:(S.g.fld c).length<=20):S1 S (.E k i own a) (.Assign [.Attribute b nm ap] e pos):=λR hR os en s I=>by
 rw[plainObj_exec_Assign_Attribute _ _ _ _ _ (fv hc)];refine J.h (J.i (h R I) λB b1 v F K=>And.elim λC M=>J.j cQ λsf PT=>J.j cQ λl hl=>?_);refine bB λP0 Z=>?_;obtain⟨sv,u4⟩:=b1;cases zl (cM PT);obtain⟨hx,hi⟩:=vk (cM hl);obtain⟨A,H,r,h2,y0⟩:kO (λA H=>R.cx 0=some A) (λA H=>A.holds F.heap H) (λA H=>ki S.g (R.V B F.heap) F.heap H (.e k l) (B 0)):=eK (C.c.slot 0 _ hx nofun) λv dO=>aK dO λka y=>eK ka λl sD=>aK sD λe h=>⟨l,v,e,h,y⟩
 have M:iG S.g (R.V B F.heap) F.heap v sf (B tI):=by
  obtain⟨oo,eo⟩:∃oo,B tI=oo:=⟨_,rfl⟩;rw[eo]at M|-
  cases M with
  |f z=>exact z
 obtain⟨o0,W⟩:∃o0,B 0=o0:=⟨_,rfl⟩;rw[W]at y0;refine Z ?_
 cases y0 with
 | @e _ _ vs as _ o Xi sh yl bd=>
  refine bB λP0 Z=>?_;obtain⟨x,d,G,n,rfl,q1,q2,D,rfl,rfl⟩:=(t▸sh).inv2
  have N:G.length=i:=by rw[hi,<-yl.E,cz]
  have Te:=aS q;refine Z ?_;rw[assign_Attribute]
  refine wpAny_bind (wpAny_bind (wpAny_holding (gz (hb:dn S 0 b) r h2 (wpAny_bind (wpAny_standAt (wpAny_bind (wpAny_holding (u6 ?_ hs q1 q2 (DZ D (by
   rw[(by rw[N]:(S.g.fld c).take G.length=(S.g.fld c).take i)];intro m;obtain⟨j,P,e⟩:=List.getElem_of_mem m;rw[List.length_take]at P;rw[List.getElem_take]at e
   exact Nat.ne_of_lt (gZ P (Nat.min_le_left _ _)) ((List.getElem?_inj (i:=j) (j:=i) (gZ P (Nat.min_le_right _ _)) (S.g.g c)).mp (by rw[q,ij (gZ P (Nat.min_le_right _ _)),e])):nm∉(S.g.fld c).take G.length)) (R3 (Cf Te TM rfl) N) λQ n' E Y=>wpAny_release' (wpAny_pure ?_)))))))))
  ·exact S.g.fH.keeps λb o e=>(C.c.base b o e).2.2
  ·have lt:=aS hx;have X:=C.c.nd 0;rw[W]at X
   have U:d∈B 0:=by rw[W];exact .tail _ (.head _)
   have od:∀a∈o,a≠d:=λa m z=>(List.nodup_cons.mp (List.nodup_cons.mp X).2).1 (z▸m);have np:∀j A,R.cx j=some A->A.b≠d:=λj A e z=>(C.c.e 0 d U).2 ⟨j,A,e,z⟩;have kp:ku R F.heap Q:=λj A v e z=>z.at λo=>E _ o (np j A e);obtain⟨L,p⟩:∃L:DictEntry,L=⟨PyData.keyHash S.g.w.params nm,.str nm (F.toks+1),v⟩:=⟨_,rfl⟩;rw[<-p]at Y
   obtain⟨ww,cc⟩:=C.c.join (h':=Q) (hold':=R.hold Q) (sv:=.e k (l++[sf])) (v:=.ref x) lt C.E U (λa o ne e=>E a o ne e) ⟨_,Y⟩ (λj w=>kE λA=>And.elim λe z=>⟨A,e,kp j A w e z⟩) ⟨A,r,kp 0 A _ r h2⟩ nofun λV' m=>by
    rw[W,iC]
    refine .e Xi (vs:=(G++[L]).map (·.val)) (t▸.obj (E x _ (λz=>(List.nodup_cons.mp X).1 (z▸.head _):x≠d) q1) Y (by
     rw[dc,qa,List.take_add_one,N,q,<-N,p]
     exact D.snoc ⟨⟨_,rfl⟩,rfl⟩:aT (qF S.g) (G++[L]) ((S.g.fld c).take (G++[L]).length))) ?_ ?_
    ·rw[List.map_append,p];exact(yl.mono m λa u o e=>E a o (od a u) e).snoc (M.mono m λa u o e=>E a o ((λa m z=>C.c.k 0 tI d (C.ne lt:(0:Nat)≠tI) U (z▸m):∀a∈B tI,a≠d) a u) e)
    ·rw[dc,qa,<-hi];exact az (show i+1<=20 from az Te TM) (by decide)
   exact⟨_,⟨λa o n e=>⟨E a o (λz=>n (.inr (.inr ⟨0,z▸U⟩))) e,λw=>n ((show Wr R.O R.pl B a from ww▸(show Wr R.O R.pl ((B.f 0 (B 0++B tI)).f tI []) a from w)))⟩,⟨rfl,rfl⟩,λi K=>kp i⟩,.a ⟨⟨cc,λj A e=>(C.oK j A e).at λo=>E _ o (np j A e),C.inj,by rw[eI];exact C.E⟩,aJ.d⟩⟩
end
section
variable {M:Model}{A:Around}{E:Value->Shared->Prop}{ah:Env}
variable {nm q:Str}{C N:Addr}{bs bm:List Value}{hdct:Bool}{sn:List Str}{sub:List Value}{ab:Bool}{col:Option Bool}{dd:Option Addr}{k0 k1 k2 k3 k5:Option Value}{newId:String}
def Dm(L:bm.contains (.type "BaseException")=true)(H:A.handled=none)
 (h:wpAny M A x (λv B=> ∃e t F,v= .ref e/\B.heap.get? C=some (excClassObj nm q C N bs bm hdct sn sub ab col dd k0 k1 k2 k3 k5 newId)/\B.heap.get? e=some ⟨.ref C,some F,.fields #[.ref t,.none,.none,.none,.bool false,.none],#[]⟩/\E (.ref e) B) E s):
 wpAny M A (raiseStmt ah (some x) none) Q E s:=by
 unfold raiseStmt;refine wpAny_bind (wpAny_mono h (λv B I=>?_) λz z x=>x);refine bB λV G=>?_;obtain⟨e,t,F,rfl,D,O,P⟩:=I;obtain⟨U,g,d,S,R⟩:=B;refine G ?_
 repeat (first |with_reducible refine wpAny_loadPart_at O ?_ |with_reducible refine wpAny_loadPart_at D ?_ |(with_reducible refine wpAny_isSubtype_exc D ?_;rw[(by rw[List.contains_cons,L,Bool.or_true]:(Value.ref C::bm).contains (.type "BaseException")=true)])|wp_step)
 exact wpAny_raiseNew_none H P
end
noncomputable abbrev excOf(A t B:Addr):Obj:=⟨.ref A,some B,.fields #[.ref t,.none,.none,.none,.bool false,.none],#[]⟩
inductive pD(g:Gd)(cB:Addr):Prop
 |mk (nm q:Str) (N:Addr) (bs bm:List Value) (hdct:Bool) (sn:List Str) (sub:List Value) (ab:Bool) (col:Option Bool) (dd:Option Addr) (k0 k1 k2 k3 k5:Option Value) (newId:String)
  (hb:bm.contains (.type "BaseException")=true) (ho:g.base.get? cB=some (excClassObj nm q cB N bs bm hdct sn sub ab col dd k0 k1 k2 k3 k5 newId)) (hk:keepIn g.K (.ref cB)=true)
  (call:∀{A:Around} {E:Value->Shared->Prop} {s:Shared} {v:Value} {Q:Value->Shared->Prop},g.base.StaysIn s.heap->A.depth+5<recursionLimit->(∀h' tk t dx e,s.heap.StaysIn h'->s.heap.get? e=none->h'.get? e=some (excOf cB t dx)->Q (.ref e) {s with heap:=h',toks:=tk})->wpAny (model g.prog g.w) A (PySem.call (.ref cB) [v] []) Q E s)
section
variable {S:cZ}{R:aU S}{os os':aJ}{en en':List SV}{s s':Shared}
theorem oN{B h:Heap}:∀{l:List Env} {O:ie},pA l O->(∀p∈O,h.Ns p.1 p.2/\B.get? p.1=none)->h.FunFrames B l
 |[],[],_,_ =>trivial
 |[],_ ::_,f,_ =>f.elim
 |_ ::_,[],f,_ =>f.elim
 |e::l,p::O,⟨f1,f2,f3⟩,k=>by
  obtain⟨⟨o,F,ep,A,C,_⟩,D⟩:=k p (.head _);exact⟨f1,⟨p.1,o,f2,D,A,λE z=>by rw[C]at z;cases z⟩,oN f3 λq m=>k q (.tail _ m)⟩
def bo.d(I:bo R os en s)(G:uS R){h':Heap}{P:Nat}{t Q e:Addr}(C:s.heap.StaysIn h')(M:s.heap.get? e=none)(N:h'.get? e=some (excOf S.cB t Q)):XE R (R.W os) s (.ref e) {s with heap:=h',toks:=P}:=by
 obtain⟨m,F⟩:=I.oK R.Li _ R.p;obtain⟨B,H,D⟩:=fZ s.heap λb=> ¬R.W os b;have E:∀{a},R.W os a->B.get? a=none:=λw=>c8 λo e=>(D _ o e).2 w;refine .inr ⟨G.st,B,e,.ref t,H,rfl,.d _ #[.ref t,.none,.none,.none,.bool false,.none] (λb o q=>C b o (D b o q).1) (c8 λo q=>bw M (D _ o q).1) (oN (O:=(R.L,m)::R.O) (R.ig m).a λp A=>?_) N rfl rfl rfl rfl,λp A=>Ns.at (I.c.n p A) λo=>C _ o,rfl,rfl⟩
 cases A with
 |head=>exact⟨Ns.at F λo=>C _ o,E (.inr (.inl R.h))⟩
 |tail _ A=>exact⟨Ns.at (I.c.n p A) λo=>C _ o,E (.inl ⟨p,A,rfl⟩)⟩
def S1.q(hb:pD S.g S.cB)(hn:dX S nm (.ref S.cB))(j:SA S a x):S1 S (.q a) (.Raise (some (.Call (.Name nm np) [x] [] i)) none pos):=λR hR os en s I=>by
 obtain⟨n,q,N,z,p,D,d,O,l,U,y,r,L,V,M,u,B,Qj,ho,hk,Ms⟩:=hb;have H:=j.1 R I
 have Y:∀{Q:Flow->Shared->Prop} {E:Value->Shared->Prop},wpAny (model S.g.prog S.g.w) R.A (eval x R.ah) (λv F=>S.g.base.StaysIn F.heap/\∀X Z t W e,F.heap.StaysIn X->F.heap.get? e=none->X.get? e=some (excOf S.cB t W)->E (.ref e) {F with heap:=X,toks:=Z}) E s->wpAny (model S.g.prog S.g.w) R.A (exec (.Raise (some (.Call (.Name nm np) [x] [] i)) none pos) R.ah) Q E s:=λ{Q E} h=>by
  rw[arm_exec_Raise];refine wpAny_bind (wpAny_standAt (Dm (C:=S.cB) (nm:=n) (q:=q) (N:=N) (bs:=z) (bm:=p) (hdct:=D) (sn:=d) (sub:=O) (ab:=l) (col:=U) (dd:=y) (k0:=r) (k1:=L) (k2:=V) (k3:=M) (k5:=u) (newId:=B) Qj R.r (wpAny_bind (wpAny_mono (Q:=λv F=> ∃e t W,v= .ref e/\F.heap.get? S.cB=some (excClassObj n q S.cB N z p D d O l U y r L V M u B)/\F.heap.get? e=some (excOf S.cB t W)/\E (.ref e) F) (E:=E) ?_ (λv s3 h3=>wpAny_bind (wpAny_standAt (wpAny_pure h3))) λT T e=>e))));show wpAny _ _ (eval (.Name nm np) R.ah>>=λf=>callWith i f [] (backTo i (starEach [x] R.ah)) []) _ _ _;refine wpAny_bind (dZ I hn (callWith_of (P:=S.g.K.In) (by rw[aM j.2];rfl) (keeps_K hk) (d5 (.inr ⟨x,[],rfl,j.2⟩) ?_)));rw[aM j.2];exact spliced_cons (wpAny_mono h (λv F=>And.elim λk e=>spliced_nil ⟨S.g.fH.keeps k,Ms k (UX ((R.ig λT=>Option.none).depth)) λX Z t W a L V M=>⟨a,t,W,rfl,L _ _ (k _ _ ho),M,e X Z t W a L V M⟩⟩) λT T e=>e)
 show J R os s _ ((ev S.G S.call a en).i λb=>(strOf b.1).i λT=>.bG) _
 induction hr:ev S.G S.call a en using Mine.bf with
 |aA=>trivial
 |bG=>rw[hr]at H;exact Y (wpAny_mono H (λT T q=>q.elim) λT T e=>e)
 |oK b=>
  rw[hr]at H;show J R os s _ ((strOf b.1).i λT=>.bG) _
  induction hq:strOf b.1 using Mine.bf with
  |aA=>trivial
  |bG=>generalize b.1=a at hq;induction a using su<;>cases hq
  |oK t=>exact Y (wpAny_mono H (λv F=>JP.a λfq le=>And.elim λI2 T=>⟨λb o e=>(I2.c.base b o e).2.2,λX Z t W e L V M=>XE.from (R:=R) le.f le.m (I2.d hR L V M)⟩) λT T e=>e.elim)
end
section
variable {S:cZ}{R:aU S}{os os':aJ}{en en':List SV}{s s':Shared}{m:Str->Option Value}
def bo.after(I:bo R os en s)(k:∀a o,a≠R.L->(∀p∈R.O,p.1≠a)->s.heap.get? a=some o->s'.heap.get? a=some o)(F:s.heap.Ns R.L m)(B:s'.heap.Ns R.L m)(out:∀p∈R.O,s'.heap.Ns p.1 p.2)(H:fb s s'):bo R os en s'/\Le R os s os s':=by
 have D:∀{a},¬R.W os a->∀o,s.heap.get? a=some o->s'.heap.get? a=some o:=λn o=>k _ o ((λn e=>n (.inr (.inl (e▸R.h))):∀{a},¬R.W os a->a≠R.L) n) ((λn p N e=>n (.inl ⟨p,N,e⟩):∀{a},¬R.W os a->∀p∈R.O,p.1≠a) n);have E:∀{j a},a∈os j->∀o,s.heap.get? a=some o->s'.heap.get? a=some o:=λm o=>k _ o ((λm e=>(I.c.e _ _ m).2 (e▸R.h):∀{j a},a∈os j->a≠R.L) m) (I.c.e _ _ m).1;have G:∀{i l},R.cx i=some l->l.b≠R.L->∀o,s.heap.get? l.b=some o->s'.heap.get? l.b=some o:=λ{i l} e q o=>k _ o q (I.c.l _ ⟨i,l,e,rfl⟩).2;have A:dE (R.W os) s.heap (R.W os) s'.heap:=λa o n e=>⟨D n o e,n⟩;have kp:ku R s.heap s'.heap:=λi l v e x=>Loc.keep F B (G e) x;refine⟨⟨⟨⟨λa o e=>A.c9 a o (I.c.base a o e),λa x=>⟨let⟨o,e⟩:=(I.c.b a x).1;⟨o,D (I.c.b a x).2 o e⟩,(I.c.b a x).2⟩,out,λa x=>⟨?_,(I.c.l a x).2⟩,I.c.e,I.c.nd,I.c.k,I.c.emp,λa m=>let⟨o,e⟩:=I.c.q a m;⟨o,E m o e⟩,λj P e q=>?_⟩,λi l e=>Loc.e F B (G e) (I.oK i l e),I.inj,I.E⟩,I.tm⟩,⟨A,H,λi z=>kp i⟩⟩
 ·by_cases q:a=R.L
  ·exact q▸Ns.live B
  ·obtain⟨o,e⟩:=(I.c.l a x).1;exact⟨o,k a o q (I.c.l a x).2 e⟩
 ·obtain⟨v,⟨l,C,M⟩,y⟩:=I.c.slot j P e q;exact⟨v,⟨l,C,kp j l v C M⟩,y.mono A.c9 λa m=>E m⟩
end
section
variable {S:cZ}{R:aU S}{os os':aJ}{en en':List SV}{s s':Shared}{m:Str->Option Value}
def BI(I:bo R os en s)(hR:uS R)(hb:pD S.g S.cB)(z:dX S bn (.ref S.cB))(n:s.heap.Ns R.L m)(x:XP ((R.L,m)::R.O) R.l S.cB (Wr ((R.L,m)::R.O) cA (λJ=>[])) s e s')
 (hq:∀s2 tk,bo R os en s2->Le R os s os s2->Q (.ret (.str t tk)) s2):
 wpAny (model S.g.prog S.g.w) R.A (noteFrame e R.ah) (λJ s2=>wpAny (model S.g.prog S.g.w) R.A (setFlight e none) (λJ s3=>wpAny (model S.g.prog S.g.w) R.A (handleBy e R.ah [.ExceptHandler (some (.Name bn bp)) none [.Return (some (.Constant (.str t) ck cp)) rp] C]) Q E s3) E s2) E s':=by
 refine bB λP0 M=>?_;obtain⟨a,a0,rfl,F,V,h4⟩:=x;obtain⟨B,b1,b2⟩:=fZ s.heap λb=> ¬Wr ((R.L,m)::R.O) cA (λJ=>[]) b;obtain⟨G,H⟩:=hR.top;have W:=R.frames;have F:=F B b2;rw[H]at W F;refine M (wpAny_looks_onW W R.frame F λL0 AZ HE=>?_);refine wpAny_landsW AZ λr U v=>?_;refine bB λP0 M=>?_
 have Y:∀{D:Heap},B.StaysIn D->s'.heap.UpToSlots D->bo R os en {s' with heap:=D}/\Le R os s os {s' with heap:=D}:=λ{D} k u=>I.after (λa o q1 q2 e=>k a o (b1 a o e λw=>by
  rcases w with⟨p,C,w⟩|w |⟨k,w⟩
  ·cases C with
   |head=>exact q1 w.symm
   |tail _ C=>exact q2 p C w
  ·exact w
  ·cases w)) n (jX V u (R.L,m) (.head _)) (λp C=>jX V u p (.tail _ C)) h4
 have j:=HE.trans v;have Z:=(Y U.1 j).1;obtain⟨ob,h,P4⟩:=U.there;obtain⟨cn,q,N,bs,bm,X,sn,d,ab,i,dd,k0,k1,k2,k3,k5,P,Qj,y,_,_⟩:=hb;refine M (wpAny_handleBy_cons (codeAny_handlers_test (sE Z z ?_)) (by intro q;cases q));refine wpAny_excMatches_sub_self ((Z.c.base _ _ y).2.2:r.get? S.cB=some _) h P4 Qj (codeAny_handlers_suite ?_);refine lands_againW U λWS f HB=>?_;obtain⟨I6,l6⟩:=Y f.1 (j.trans HB);exact wpAny_execs_cons (wpAny_Return_some (wpAny_Constant_str (hq _ _ I6.tok (l6.trans .tok))))
end
def S1.o(j:pD S.g S.cB)(Y:dX S bn (.ref S.cB))(U:dX S nm (.ref (S.g.iH f)))(P:keepIn S.g.K (.ref (S.g.iH f))=true)(H:dn S y x):
 S1 S (.o (.K (.fn f) [] [.H y none]) (.d (.j t))) (.Try [.Return (some (.Call (.Name nm np) [x] [] p)) X] [.ExceptHandler (some (.Name bn bp)) none [.Return (some (.Constant (.str t) ck cp)) OO] hp] [] [] pos):=λR hR u B s I=>by
 show Wt S.g R.A _ s ((pa (((aD.d (Fq B y none)).i λb=>.oK ([b.1],b.2)).i λb=>(e_ S.call f [] b.1 b.2).i λr=>(aD.d r.1.q).i λw=>.oK (w,r.2)) (.oK (.j t,B))).i λb=>.oK (Fl.C (.h b.1),b.2)) _ _
 induction hr:Fq B y none using aF with
 |none=>trivial
 |some b=>
  refine bB λP0 M=>?_;refine dg (show((B[y]?).bind λs=>s.q.map λv=>(v,B.set y (.h v)))=some b from hr) λsv O i=>?_;refine pK i λw e3 bS=>?_;obtain rfl:=bS;obtain⟨l,v,dw,n,W,WI,k,V⟩:=I.freeze O e3;obtain⟨m,hm,h⟩:=BJ (f:=f) (ios:=[]) (vio:=[]) (vals:=[v]) (vs:=[w]) k (λm=>(R.ig m).less) .nil nofun rfl (.u V .j)
  have G:bV x=true:=by obtain⟨_,_,rfl,_⟩:=H;rfl
  have C:∀{Q:Flow->Shared->Prop} {E:Value->Shared->Prop},wpAny (model S.g.prog S.g.w) R.A (PySem.call (.ref (S.g.iH f)) [v] []) (λv D=>Q (.ret v) D) E s->wpAny (model S.g.prog S.g.w) R.A (execs [.Return (some (.Call (.Name nm np) [x] [] p)) X] R.ah) Q E s:=λ{Q E} h=>by
   refine wpAny_execs_cons (wpAny_Return_some (wpAny_mono (Q:=λv D=>Q (.ret v) D) (E:=E) ?_ (λJ J q=>q) λJ J e=>e));show wpAny _ _ (eval (.Name nm np) R.ah>>=λf=>callWith p f [] (backTo p (starEach [x] R.ah)) []) _ _ _;refine wpAny_bind (dZ I U (callWith_of ?_ (keeps_K P) (d5 (.inr ⟨x,[],rfl,G⟩) ?_)))
   ·rw[aM G];rfl
   ·rw[aM G];exact spliced_cons (gz H n W (spliced_nil ⟨I.fH,h⟩))
  refine M ?_;show Wt S.g R.A _ s ((pa ((e_ S.call f [] [w] (B.set y (.h w))).i λr=>(aD.d r.1.q).i λw=>.oK (w,r.2)) (.oK (.j t,B))).i λb=>.oK (Fl.C (.h b.1),b.2)) _ _
  induction hc:e_ S.call f [] [w] (B.set y (.h w))using Mine.bf with
  |aA=>trivial
  |bG=>
   rw[hc]at h;refine wpAny_Try_except (C (wpAny_mono (wpAny_call h) (λJ J q=>q.elim) λe D x=>?_));refine BI I hR j Y hm x λs2 c L N=>⟨u,N,L.toeO,_,rfl,?_⟩;rw[L.tm];exact .f (.v (a:=.j t) (show aZ _ _ _ from .j t c))
  |oK b=>
   rw[hc]at h;show Wt S.g R.A _ s ((pa ((aD.d b.1.q).i λw=>.oK (w,b.2)) (.oK (.j t,B))).i λb=>.oK (Fl.C (.h b.1),b.2)) _ _
   induction hz:b.1.q using aF with
   |none=>trivial
   |some z=>
    refine wpAny_Try_except (C (wpAny_mono (wpAny_call h) (λv D=>JP.a λZ o q=>?_) λJ J q=>q.elim));obtain⟨F,d⟩:=PR.pe (sv:=b.1) (en:=b.2) q hz;exact⟨_,(WI.trans o).trans d,F.1.toeO,v,rfl,by rw[F.1.tm];exact .f (.v F.2)⟩
section
variable {g:Gd}{A:Around}
def xR(h:v::r=qG xs ys):Np (λa s b t=>xs=a::s) (λa s b t=>ys=b::t) (λa s b t=>v= .tup [a,b]) (λa s b t=>r=qG s t):=by
 induction xs using cF with
 |nil=>cases h
 |cons a s=>induction ys using cF with
  |nil=>cases h
  |cons b t=>cases h;exact⟨a,s,b,t,rfl,rfl,rfl,rfl⟩
def y8(h:[]=qG xs ys):xs=[]\/ys=[]:=by
 induction xs using cF with
 |nil=>exact .inl rfl
 |cons a s=>induction ys using cF with
  |nil=>exact .inr rfl
  |cons b t=>cases h
theorem sC:∀{xs ys:List AV},(qG xs ys).length<=xs.length
 |[],_ =>fh _
 |_ ::_,[]=>da _
 |_ ::xs,_ ::ys=>eU (sC (xs:=xs) (ys:=ys))
inductive Yl(g:Gd)(z TI TO i1 i2 l1 l2:Addr)(items:List AV)(V:cR)(h:Heap):Prop
 |mk (k:Nat) (xs ys:List AV) (vx vy:Array Value) (nx ny:Nat) (a b:Value) (q:items=qG (xs.drop k) (ys.drop k)) (q1:IsZip h z TI TO .none) (q2:IsPair h TI (.ref i1) (.ref i2)) (q3:IsPair h TO a b)
  (q4:h.IsListIter i1 l1 k) (q5:h.IsListIter i2 l2 k) (q6:V l1 (listOf vx nx)) (q7:V l2 (listOf vy ny)) (q8:cm g V vx.toList xs) (q9:cm g V vy.toList ys)
def yP{P:Addr->Prop}{a b c d e:Addr}:(∀x∈[a,b,c,d,e],P x)↔P a/\P b/\P c/\P d/\P e:=by simp only[cu,List.not_mem_nil,false_implies,implies_true,and_true]
def pB.zip(hh:A.handled=none){ts:List Expr}{c:Nat}{tp:Pos}{z TI TO n i2 l1 l2:Addr}(D:ZipApart z TI TO n i2 l1 l2):pB g A (.Tuple ts c tp) z [z,TI,TO,n,i2] (Yl g z TI TO n i2 l1 l2)where
 self:=λF Y=>by obtain⟨_,_,_,_,_,_,_,_,_,_,B,_⟩:=F;exact wpAny_pyIter_zip B Y
 live:=λF=>by
  refine bB λf C=>?_;obtain⟨k,W,X,u,j,U,w,a,d,q,B,G,N,⟨l,q4,_⟩,⟨o5,H,_⟩,I,M,O,L⟩:=F;exact C (yP.mpr ⟨⟨_,B⟩,⟨_,G⟩,⟨_,N⟩,⟨_,q4⟩,⟨_,H⟩⟩)
 frame:=λF R p Ta hk=>by
  refine bB λf C=>?_;obtain⟨k,W,X,u,j,U,w,a,d,q,B,G,N,⟨l,q4,r4⟩,⟨o5,H,r5⟩,I,M,O,L⟩:=F;obtain⟨h1,h2,h3,h4,h5⟩:=yP.mp hk;exact C (⟨k,W,X,u,j,U,w,a,d,q,h1 _ B,h2 _ G,h3 _ N,⟨l,h4 _ q4,r4⟩,⟨o5,h5 _ H,r5⟩,p _ _ I,p _ _ M,O.mono p,L.mono p⟩)
 a:=λ{v r V s Q E} R F Y=>by
  refine bB λf C=>?_;obtain⟨k,W,X,u,j,U,w,a,d,q,B,G,N,q4,H,I,M,O,L⟩:=F;obtain⟨a1,s1,b1,t1,e1,e2,rfl,rfl⟩:=xR q;obtain⟨x1,rfl,_⟩:=j9 e1.symm;obtain⟨y1,rfl,_⟩:=j9 e2.symm;obtain⟨v1,w1,r1⟩:=O.get x1;obtain⟨v2,w2,r2⟩:=L.get y1;refine C (wpAny_pyNext_zip_item D B G N q4 H (aQ (R _ _ I)) (aQ (R _ _ M)) (x:=v1) (y:=v2) (by rw[<-mH];exact w1) (by rw[<-mH];exact w2) λh' z1 z2 h z4 z5 z6 t=>Y _ _ λ{Q2 E2} Qn=>?_);refine wpAny_letOwnedTupleGo_zip z1 λh2 Qb sb=>?_;have S:∀b o,b≠z->h'.get? b=some o->h2.get? b=some o:=λb o Z q=>(sb.2 b Z).trans q;obtain⟨o3,h,U2⟩:=h;obtain⟨l,z4,U1⟩:=z4;refine Qn _ (λb o Z q=>?_) ⟨rfl,rfl⟩ (.pair (a:=s.heap.objs.size) bJ (S _ _ (Nat.ne_of_gt (Heap.lt_size B:z<s.heap.objs.size)) z5) r1 r2) ⟨k+1,W,X,u,j,U,w,v1,v2,rfl,Qb,S _ _ D.TIz (t _ _ D.TIz D.TITO D.TIi1 D.TIi2 G),S _ _ D.TOz z2,⟨o3,S _ _ D.i1z h,U2⟩,⟨l,S _ _ D.i2z z4,U1⟩,I,M,O,L⟩;refine bB λf C=>?_;obtain⟨i,_,n3,n4,n5⟩:=(yP (P:=λx=>x≠b)).mp λx m e=>Z (e▸m);exact C (S b o (Ne.symm i) (t b o (Ne.symm i) (Ne.symm n3) (Ne.symm n4) (Ne.symm n5) q))
 done:=λ{V s Q E} R F Y=>by
  obtain⟨k,W,X,u,j,U,w,a,d,q,B,G,N,q4,H,I,M,O,L⟩:=F;refine wpAny_pyNext_zip_end hh D B G N q4 H (aQ (R _ _ I)) (aQ (R _ _ M)) ?_ λh' t=>Y _ (λb o Z q=>?_) ⟨rfl,rfl⟩
  ·rcases y8 q with e |e
   ·exact .inl (by rw[Array.getElem?_eq_none_iff,bX O];exact List.drop_eq_nil_iff.mp e)
   ·exact .inr (by rw[Array.getElem?_eq_none_iff,bX L];exact List.drop_eq_nil_iff.mp e)
  ·refine bB λf C=>?_;obtain⟨i,_,n3,n4,n5⟩:=(yP (P:=λx=>x≠b)).mp λx m e=>Z (e▸m);exact C (t b o (Ne.symm i) (Ne.symm n3) (Ne.symm n4) (Ne.symm n5) q)
def xQ(h1:F<S)(C:E<S):ZipApart (S+4) (S+2) (S+3) S (S+1) F E:=by
 have u:∀{i j:Nat},i<j->S+i<S+j:=λh=>Nat.add_lt_add_left h S;have B:∀{d j:Nat},d<S->d<S+j:=λh=>gZ h (eN _ _);have D:∀{j:Nat},0<j->S<S+j:=λh=>Nat.lt_add_of_pos_right h
 constructor<;>refine(λh=>h.elim Nat.ne_of_lt Nat.ne_of_gt:∀{a b:Nat},(a<b\/b<a)->a≠b) ?_ <;>first |exact .inl (u (by decide))|exact .inr (u (by decide))|exact .inl (D (by decide))|exact .inr (D (by decide))|exact .inl (B h1)|exact .inl (B C)|exact .inr (B h1)|exact .inr (B C)|exact .inl h1 |exact .inl C |exact .inr h1 |exact .inr C
end
def oz(h:mR a=some l):a= .aj l:=by
 induction a using su with
 |l=>cases h;rfl
 |_ =>cases h
section
variable {S:cZ}{R:aU S}{os os':aJ}{en en':List SV}{s s':Shared}
def IX.zip(ha:SA S a x)(W:SA S b y)(Q:dX S nm (.type "zip")):IX S .zip (.Tuple ts c tp) [a,b] (.Call (.Name nm np) [x,y] [] p):=by
 refine⟨λJ J=>rfl,λR os en s I=>?_⟩;refine wx Q (.u ha (.u W .j)) I (f:=λb=>(aD.d (bz .zip b.1)).i λA=>.oK (A,b.2)) λ{os' F ws en' s'} Z h r n=>Wt.some λA hi=>?_;refine bB λP0 M=>?_;obtain⟨v1,v2,U,w2,rfl,rfl,Y,r2⟩:=rep2 r n;refine dg (show((mR U).bind λl=>(mR w2).map λr=>qG l r)=some A from hi) λj O q=>?_;refine pK q λN d k=>?_;obtain rfl:=k;cases oz O;cases oz d;obtain⟨d1,X,u,rfl,D,h2,i⟩:=Y.aj;obtain⟨d2,v,w,rfl,C,t,_⟩:=r2.aj;refine M (call_zip_2 (aQ D.2.2) (aQ C.2.2) λh' B L G q4 H q6 P=>⟨os',s',Z,h,λE=>wpAny_pyIter_zip B ?_⟩)
 refine⟨_,_,_,rfl,az sC i,pB.zip R.r (xQ (Heap.lt_size D.2.2) (Heap.lt_size C.2.2)),P,⟨rfl,rfl⟩,yP.mpr ⟨d4 (eN _ _),d4 (eN _ _),d4 (eN _ _),d4 (fh _),d4 (eN _ _)⟩,
  yP.mpr ⟨⟨_,B⟩,⟨_,L⟩,⟨_,G⟩,eK q4 λo z=>aK z λe J=>⟨o,e⟩,eK H λo g=>aK g λe J=>⟨o,e⟩⟩,λV m J=>⟨0,j,N,X,v,u,w,.none,.none,rfl,B,L,G,q4,H,m _ _ D,m _ _ C,h2.mono m,t.mono m⟩⟩
end
def bD[BEq α][LawfulBEq α]:∀{l:List (α×β)},l.lookup x=some k->(x,k)∈l:=by
 intro l
 induction l with
 |nil=>exact λh=>nomatch h
 |cons p r A=>
  intro h;obtain⟨n,j⟩:=p;rw[List.lookup_cons]at h
  induction q:x==n using aR with
  |true=>rw[q]at h;cases beq_iff_eq.mp q;cases h;exact .head _
  |false=>rw[q]at h;exact .tail _ (A h)
def wk{ah:Env}(h1:∀n k acc,k≠.free->f (n,k) acc=pure (.yield acc))(H:∀n c acc,ah.cells.lookup n=some c->f (n,.free) acc=pure (.yield ((n,c)::acc))):
 ∀(names:List (Str×NameKind)) (acc:List (Str×Addr)),(∀x∈names,x.2= .free->∃c,ah.cells.lookup x.1=some c)->∃A,(forIn names acc f:Sem (List (Str×Addr)))=pure A/\∀x c,ah.cells.lookup x=some c->(x,NameKind.free)∈names\/acc.lookup x=some c->A.lookup x=some c:=by
 intro names
 induction names with
 |nil=>exact λacc z=>⟨acc,rfl,λx c z q=>q.elim (λm=>absurd m List.not_mem_nil) id⟩
 |cons p r F=>
  intro acc D;obtain⟨n,k⟩:=p;rw[List.forIn_cons]
  by_cases C:k= .free
  ·subst C;obtain⟨d,G⟩:=D _ (.head _) rfl;obtain⟨A,e,q⟩:=F ((n,d)::acc) λx m=>D x (.tail _ m);refine⟨A,by rw[H n d acc G];exact e,λx c B m=>q x c B ?_⟩
   by_cases E:x=n
   ·subst E;cases G.symm.trans B;exact .inr (by rw[List.lookup_cons,beq_self_eq_true])
   ·rcases m with m |m
    ·cases m with
     |head=>exact absurd rfl E
     |tail _ m=>exact .inl m
    ·exact .inr (by rw[List.lookup_cons,beq_false_of_ne E];exact m)
  ·obtain⟨A,e,q⟩:=F acc λx m=>D x (.tail _ m);refine⟨A,by rw[h1 n k acc C];exact e,λx c B m=>q x c B ?_⟩;rcases m with m |m
   ·cases m with
    |head=>exact absurd rfl C
    |tail _ m=>exact .inl m
   ·exact .inr m
def wj{scope:Scope}(F:∀x∈scope.names,x.2= .free->∃c,ah.cells.lookup x.1=some c):∃A,closureFor scope ah=pure A/\∀x c,ah.cells.lookup x=some c->scope.names.lookup x=some .free->A.lookup x=some c:=by
 obtain⟨A,e,q⟩:=wk (ah:=ah) (f:=λx D=>do
  if x.2==.free then
   let a <-cellOf ah x.1
   pure (ForInStep.yield ((x.1,a)::D))
  else pure (ForInStep.yield D)) (λn k B E=>if_neg (by simpa using E)) (λn c B C=>by
   show(cellOf ah n>>=_)=_
   unfold cellOf;rw[C];rfl) scope.names [] F
 refine⟨A,?_,λx c C h=>q x c C (.inl (bD h))⟩;unfold closureFor;exact Eq.trans (bind_pure _) e
def ju{ah:Env}{x:Str}{k:NameKind}:∀{names:List (Str×NameKind)},names.lookup x=some k->
 (names.map λ(n,k)=>if(k==NameKind.free&&ah.scope.kind==.function&&ah.kindOf n==some .cell)then(n,NameKind.cell)else(n,k)).lookup x=some k\/k= .free/\(names.map λ(n,k)=>if(k==NameKind.free&&ah.scope.kind==.function&&ah.kindOf n==some .cell)then(n,NameKind.cell)else(n,k)).lookup x=some .cell:=by
 intro names
 induction names with
 |nil=>exact λh=>nomatch h
 |cons p r B=>
  intro h;obtain⟨n,j⟩:=p;show List.lookup x ((if(j==NameKind.free&&ah.scope.kind==.function&&ah.kindOf n==some .cell)=true then(n,NameKind.cell)else(n,j))::_)=_ \/_ /\List.lookup x ((if(j==NameKind.free&&ah.scope.kind==.function&&ah.kindOf n==some .cell)=true then(n,NameKind.cell)else(n,j))::_)=_;rw[List.lookup_cons]at h
  by_cases A:(j==NameKind.free&&ah.scope.kind==.function&&ah.kindOf n==some .cell)=true
  ·rw[if_pos A];rw[List.lookup_cons]
   induction q:x==n using aR with
   |true=>
    rw[q]at h;cases h;rw[Bool.and_eq_true,Bool.and_eq_true]at A;exact .inr ⟨beq_iff_eq.mp A.1.1,rfl⟩
   |false=>rw[q]at h;exact B h
  ·rw[if_neg A];rw[List.lookup_cons]
   induction q:x==n using aR with
   |true=>rw[q]at h;exact .inl h
   |false=>rw[q]at h;exact B h
structure gP(S:cZ)(scope:Scope)(dY:List (Str×Nat))(tn:List (Nat×Str)):Prop where
 f:scope.kind= .function
 cell:∀x∈scope.names,x.2≠.cell
 a:∀x∈scope.names,x.2= .local->scope.names.lookup x.1=some .local
 tg:∀i x,tn.lookup i=some x->S.b i=false/\scope.names.lookup x=some .local
 inj:∀i j x,tn.lookup i=some x->tn.lookup j=some x->i=j
 ne:∃i x,tn.lookup i=some x
 v:∀x i,dY.lookup x=some i->tn.lookup i=some x\/scope.names.lookup x=some .free/\S.dY.lookup x=some i
 fr:∀x∈scope.names,x.2= .free->S.sc.names.lookup x.1=some .cell/\∃i,S.dY.lookup x.1=some i
noncomputable def cZ.inner(S:cZ)(scope:Scope)(dY:List (Str×Nat))(tn:List (Nat×Str)):cZ:={S with sc:=scope,dY:=dY,b:=λi=>S.b i || (tn.lookup i).isSome}
section
variable {S:cZ}{scope:Scope}{dY:List (Str×Nat)}{tn:List (Nat×Str)}
def gP.ir(c:gP S scope dY tn)(R:aU S)(h:R.cx i=some l):tn.lookup i=none:=by
 induction e:tn.lookup i using aF with
 |none=>rfl
 |some x=>exact absurd (R.t i l h) (by rw[(c.tg i x e).1];exact nofun)
def aU.q(R:aU S)(h1:S.sc.names.lookup x=some .cell)(A:S.dY.lookup x=some i):f9 (λa=>R.cx i=some (.c a)) (λa=>R.ah.cells.lookup x=some a):=by
 obtain⟨l,B,C⟩:=R.v x i A;have k:=R.gl x _ h1 nofun;rcases C with⟨e,_⟩|⟨_,a,D,rfl⟩
 ·cases k.symm.trans e
 ·exact⟨a,B,D⟩
structure Nt(R:aU S)(scope:Scope)(cl:List (Str×Addr)):Prop where
 h:∀x a,R.ah.cells.lookup x=some a->scope.names.lookup x=some .free->cl.lookup x=some a
def gP.Cv(c:gP S scope dY tn)(R:aU S):∃A,closureFor scope R.ah=pure A/\Nt R scope A:=by
 obtain⟨A,e,q⟩:=wj (scope:=scope) (ah:=R.ah) λx m e=>by
  obtain⟨C,i,B⟩:=c.fr x m e;obtain⟨a,_,D⟩:=R.q C B;exact⟨a,D⟩
 exact⟨A,e,⟨q⟩⟩
noncomputable def aU.B(R:aU S)(c:gP S scope dY tn)(C:Addr){cl:List (Str×Addr)}(hcl:Nt R scope cl)(X:dJ):aU (S.inner scope dY tn)where
 A:=R.A
 ah:=compEnvC scope cl C R.ah
 l:=R.l
 O:=R.O
 cx i:=(tn.lookup i).elim (R.cx i) λx=>some (.l C x)
 X:=X
 kp i:=R.kp i&&(tn.lookup i).isNone
 st:=false
 f:=c.f
 glob:=R.glob
 blt:=R.blt
 L:=R.L
 Li:=R.Li
 Lx:=R.Lx
 frame:=R.frame
 p:=by rw[c.ir R R.p];exact R.p
 t i l h:=by
  show(S.b i || (tn.lookup i).isSome)=true
  induction e:tn.lookup i using aF with
  |none=>rw[e]at h;rw[R.t i l h];rfl
  |some x=>exact Bool.or_true _
 ig:=R.ig
 v x i h:=by
  rcases c.v x i h with e |⟨e1,e2⟩
  ·refine⟨.l C x,by rw[e];rfl,.inl ⟨lookup_relabel_local (c.tg i x e).2,rfl⟩⟩
  ·refine bB λP0 aC=>?_;obtain⟨h1,j,h2⟩:=c.fr _ (bD e1) rfl;cases e2.symm.trans h2;obtain⟨a,q1,q2⟩:=R.q h1 e2;exact aC (⟨.c a,by rw[c.ir R q1];exact q1,.inr ⟨((ju e1).symm.imp (λq=>q.2) λq=>q),a,hcl.h x a q2 e1,rfl⟩⟩)
 gl x k h hk:=(ju h).resolve_right λq=>hk q.1
def aU.w{R:aU S}{c:gP S scope dY tn}{hcl:Nt R scope cl}{X:dJ}(h:tn.lookup i=some x):yQ (R.B c C hcl X) i:=by
 refine⟨?_,λA B=>?_⟩
 ·show(R.kp i&&(tn.lookup i).isNone)=false
  rw[h];exact Bool.and_false _
 ·rcases c.v A i B with e |⟨_,E⟩
  ·show(relabel scope R.ah).names.lookup A≠_
   exact λz=>nomatch (@lookup_relabel_local R.ah _ _ (c.tg i A e).2).symm.trans z
  ·obtain⟨l,D,_⟩:=R.v A i E;rw[c.ir R D]at h;cases h
section
variable {R:aU S}{c:gP S scope dY tn}{C:Addr}{cl:List (Str×Addr)}{hcl:Nt R scope cl}{X:dJ}{os os':aJ}{en en':List SV}{s s':Shared}{ia:List Addr}
def aU.g{i:Nat}{l:Loc}(h:R.cx i=some l):(R.B c C hcl X).cx i=some l:=by
 show(tn.lookup i).elim _ _=_
 rw[c.ir R h];exact h
def aU.o{l:Loc}(h:(R.B c C hcl X).cx i=some l):R.cx i=some l\/∃x,tn.lookup i=some x/\l= .l C x:=by
 change(tn.lookup i).elim (R.cx i) (λx=>some (.l C x))=some l at h
 induction e:tn.lookup i using aF with
 |none=>rw[e]at h;exact .inl h
 |some x=>rw[e]at h;exact .inr ⟨x,rfl,(dG h).symm⟩
def aU.b:(R.B c C hcl X).pl a↔R.pl a\/a=C:=by
 constructor
 ·rintro ⟨i,l,h,rfl⟩
  rcases aU.o h with e |⟨x,_,rfl⟩
  ·exact .inl ⟨i,l,e,rfl⟩
  ·exact .inr rfl
 ·rintro (⟨i,l,h,rfl⟩|rfl)
  ·exact⟨i,l,aU.g h,rfl⟩
  ·obtain⟨i,x,h⟩:=c.ne;exact⟨i,.l _ x,by show(tn.lookup i).elim _ _=_;rw[h];rfl,rfl⟩
def aU.d:(R.B c C hcl X).W os a↔R.W os a\/a=C:=by
 constructor
 ·rintro (w |w |w)
  ·exact .inl (.inl w)
  ·exact(aU.b.mp w).imp (λw=>.inr (.inl w)) id
  ·exact .inl (.inr (.inr w))
 ·rintro ((w |w |w)|w)
  ·exact .inl w
  ·exact .inr (.inl (aU.b.mpr (.inl w)))
  ·exact .inr (.inr w)
  ·exact .inr (.inl (aU.b.mpr (.inr w)))
def bo.n(I:bo R os en s)(k:s.heap.StaysIn s'.heap)(F:∀a∈ia,s.heap.get? a=none)(P:∀a∈ia,∃o,s'.heap.get? a=some o)(G:s.heap.get? C=none)(H:C∉ia)(ns:s'.heap.Ns C m):
 bo (R.B c C hcl (Cc R.X ia)) os en s'/\(R.V os s.heap).le ((R.B c C hcl (Cc R.X ia)).V os s'.heap):=by
 have E:(R.V os s.heap).le ((R.B c C hcl (Cc R.X ia)).V os s'.heap):=λa o=>And.elim λx=>And.elim λy e=>⟨λq=>q.elim x λm=>bw (F a m) e,λw=>(aU.d.mp w).elim y λz=>bw (z▸G) e,k a o e⟩;have A:=I.keeps k;have f:=I.c.fresh G;refine⟨⟨⟨⟨λa o e=>E a o (I.c.base a o e),λa x=>?_,A.c.n,λa x=>?_,λi a m=>⟨(I.c.e i a m).1,λw=>(aU.b.mp w).elim (I.c.e i a m).2 λz=>f.2 (.inr (.inr ⟨i,z▸m⟩))⟩,A.c.nd,A.c.k,A.c.emp,A.c.q,λj N e q=>?_⟩,λi l e=>?_,λi j l B D=>?_,A.E⟩,A.tm⟩,E⟩
 ·rcases x with x |x
  ·exact⟨(A.c.b a x).1,λw=>(aU.d.mp w).elim (I.c.b a x).2 λz=>f.1 (z▸x)⟩
  ·exact⟨P a x,λw=>(aU.d.mp w).elim (I.c.fresh (F a x)).2 λz=>H (z▸x)⟩
 ·rcases aU.b.mp x with x |rfl
  ·exact A.c.l a x
  ·exact⟨Ns.live ns,λp L e=>f.2 (.inl ⟨p,L,e⟩)⟩
 ·obtain⟨w,⟨l,B,D⟩,y⟩:=I.c.slot j N e q;exact⟨w,⟨l,aU.g B,D.at λo=>k _ o⟩,y.mono E λa u o=>k a o⟩
 ·rcases aU.o e with e |⟨x,_,rfl⟩
  ·exact A.oK i l e
  ·exact⟨m,ns⟩
 ·rcases aU.o B with B |⟨x,O,rfl⟩<;>rcases aU.o D with D |⟨y,M,z⟩
  ·exact A.inj i j l B D
  ·exact(f.2 (.inr (.inl ⟨i,l,B,by rw[z];rfl⟩))).elim
  ·exact(f.2 (.inr (.inl ⟨j,_,D,rfl⟩))).elim
  ·cases z;exact c.inj i j x O M
def bo.q(I:bo (R.B c C hcl X) os en s)(O:∀a,R.X a->X a)(Q:∀a∈ia,X a)(U:∀i x sv,tn.lookup i=some x->en[i]? =some sv->sv= .a)(f:¬R.X C/\¬R.pl C)(Y:∀a∈ia,¬R.X a)(D:kr ia s.heap s'.heap):
 bo (R.plus [C]) os en s'/\((R.B c C hcl X).V os s.heap).le ((R.plus [C]).V os s'.heap):=by
 have B:∀{a},(R.B c C hcl X).W os a->a∉ia:=λw m=>(I.c.b _ (Q _ m)).2 w;have L:∀{a},a∉ia->(∃o,s.heap.get? a=some o)->∃o,s'.heap.get? a=some o:=λn=>kE λo e=>⟨o,D _ o n e⟩;have G:(R.B c C hcl X).pl C:=aU.b.mpr (.inr rfl);have M:((R.B c C hcl X).V os s.heap).le ((R.plus [C]).V os s'.heap):=λa o=>And.elim λx=>And.elim λy e=>⟨λq=>q.elim (λq=>x (O a q)) λq=>y (.inr (.inl (dN.mp q▸G))),λw=>y (aU.d.mpr (.inl w)),D a o (λm=>x (Q a m)) e⟩;have P:∀{i l},R.cx i=some l->l.b∉ia:=λe=>B (.inr (.inl ⟨_,_,aU.g e,rfl⟩));refine⟨⟨⟨⟨λa o e=>M a o (I.c.base a o e),λa x=>?_,λp H=>Ns.at (I.c.n p H) λo=>D _ o (B (.inl ⟨p,H,rfl⟩)),λa x=>?_,λi a m=>⟨(I.c.e i a m).1,λw=>(I.c.e i a m).2 (aU.b.mpr (.inl w))⟩,I.c.nd,I.c.k,I.c.emp,λa m=>L (B (.inr (.inr ⟨_,m⟩))) (I.c.q a m),λj sv e q=>?_⟩,λi l e=>(I.oK i l (aU.g e)).at λo=>D _ o (P e),λi j l A N=>I.inj i j l (aU.g A) (aU.g N),I.E⟩,I.tm⟩,M⟩
 ·rcases x with x |x
  ·obtain⟨E,F⟩:=I.c.b a (O a x);exact⟨L (λm=>Y a m x) E,λw=>F (aU.d.mpr (.inl w))⟩
  ·cases dN.mp x;obtain⟨E,F⟩:=I.c.l C G;refine⟨L (B (.inr (.inl G))) E,λw=>?_⟩;rcases w with⟨p,H,w⟩|w |⟨j,w⟩
   ·exact F p H w
   ·exact f.2 w
   ·exact(I.c.e j C w).2 G
 ·obtain⟨E,F⟩:=I.c.l a (aU.b.mpr (.inl x));exact⟨L (B (.inr (.inl (aU.b.mpr (.inl x))))) E,F⟩
 ·obtain⟨w,⟨l,A,N⟩,y⟩:=I.c.slot j sv e q;rcases aU.o A with A |⟨x,Z,_⟩
  ·exact⟨w,⟨l,A,N.at λo=>D _ o (P A)⟩,y.mono M λa m o=>D a o (B (.inr (.inr ⟨j,m⟩)))⟩
  ·exact absurd (U j x sv Z e) q
def Le.B(A:Le R H s0 os s)(l:Le (R.B c C hcl X) os s os' s')(G:s0.heap.get? C=none):Le R H s0 os' s':=by
 refine⟨λa o n e=>?_,A.m.trans l.m,λi q B v e h=>l.k i ?_ B v (aU.g e) (A.k i q B v e h)⟩
 ·obtain⟨D,I⟩:=A.f a o n e;obtain⟨F,E⟩:=l.f a o (λw=>(aU.d.mp w).elim I λz=>bw (z▸G) e) D;exact⟨F,λw=>E (aU.d.mpr (.inl w))⟩
 ·show(R.kp i&&(tn.lookup i).isNone)=true
  rw[q,c.ir R e];rfl
end
end
section
variable {prog:Program}{w:World}{A:Around}
def yE(I:Nat->Shared->Prop)
 (turn:∀n s,I n s->wpAny (model prog w) A (pyNext it) (λr C=>match r with
  |none=>RR (.ok .next) C
  |some v=>wpAny (model prog w) A (letOwnedTupleGo target it v) (λz s₀=>wpAny (model prog w) A (assign target ah v) (λz F=>
   wpAny (model prog w) A (forIn ifs true λc r=>if r=true then do let E <-isTrue c ah (eval c ah);pure (ForInStep.yield E)else pure (ForInStep.yield r)) (λE D=>if E=true then wpAny (model prog w) A (eval elt ah) (λx H=>
    wpAny (model prog w) A (call (.builtin "list.append") [acc,x]) (λz G=> ∃m,m<n/\I m G) (λz z=>False) H) (λz z=>False) D
    else ∃m,m<n/\I m D) (λz z=>False) F)
   (λz z=>False) s₀) (λz z=>False) C) (λz z=>False) s)
 (h:I n s):codeAny (model prog w) A (.compLoop (.ListComp elt [⟨target,iter,ifs,0⟩] scope pos) 0 it acc ah) RR s:=by
  refine codeAny_loop rfl I (λn s O=>?_) n h;show wpAny _ A ((compTurn (.ListComp elt [⟨target,iter,ifs,0⟩] scope pos) 0 it acc ah).onRaise (λx=>do noteFrame x ah;theTreesLotGoes x)) _ _ s;refine wpAny_noted ?_;rw[compTurn_list];refine wpAny_bind (wpAny_standAt (wpAny_bind (wpAny_mono (turn n s O) (λr C L=>?_) λz z B=>B.elim)))
  induction r using aF with
  |none=>exact wpAny_pure L
  |some v=>
   refine wpAny_bind (wpAny_mono L (λz s₀ S=>?_) λz z B=>B.elim);refine wpAny_bind (wpAny_mono S (λz F P=>?_) λz z B=>B.elim);refine wpAny_bind (wpAny_mono P (λR D M=>?_) λz z B=>B.elim)
   induction R using aR with
   |false=>exact wpAny_pure ⟨rfl,M⟩
   |true=>exact wpAny_bind (wpAny_bind (wpAny_mono M (λx H N=>wpAny_bind (wpAny_mono N (λz G Q=>wpAny_pure (wpAny_pure ⟨rfl,Q⟩)) λz z B=>B.elim)) λz z B=>B.elim))
def rV(B:s.heap.get? D=some (listOf arr n))(F:arr.size<=sizeLine)(C:Q .none {s with heap:=s.heap.update D (Obj.mapSeq (·.push x))}):wpAny (model prog w) A (call (.builtin "list.append") [.ref D,x]) Q E s:=by
 refine wpAny_call_entry slot_list_append (aQ B).typeIs entry_list_append ?_ (args_list_append _ _);show wpAny _ _ (updateSeq D (·.push x)>>=λz=>ret .none) _ _ s;exact wpAny_bind (wpAny_updateSeq B rfl (wpAny_pure ⟨.none,rfl,C⟩))
end
def aD.e{r:aD α}(h:r.i f= .oK c):f9 (λb=>r= .oK b) (λb=>f b= .oK c):=by
 induction r using Mine.bf with
 |oK b=>exact⟨b,rfl,h⟩
 |bG=>cases h
 |aA=>cases h
theorem sI:∀{xs:List Nat} {ah:List SV} {i:Nat} {sv:SV},i∈xs\/(∀sv,ah[i]? =some sv->sv= .a)->(gA xs ah)[i]? =some sv->sv= .a
 |[],_,_,_,h,e=>h.elim nofun λh=>h _ e
 |x::xs,ah,i,sv,h,e=>sI (xs:=xs) (ah:=ah.set x .a) (by
  by_cases q:i=x
  ·subst q;refine .inr λsv e=>?_;rcases iL e with⟨_,rfl⟩|⟨n,_⟩
   ·rfl
   ·exact absurd rfl n
  ·rcases h with h |h
   ·exact .inl ((iZ.mp h).resolve_left q)
   ·exact .inr λsv e=>(iL e).elim (λz=>absurd z.1 q) λz=>h sv z.2) e
section
variable {S:cZ}{scope:Scope}{dY:List (Str×Nat)}{tn:List (Nat×Str)}{R:aU S}{c:gP S scope dY tn}{C D:Addr}{cl:List (Str×Addr)}{hcl:Nt R scope cl}{X:dJ}{os os':aJ}{en en':List SV}{s s' s0:Shared}{ia:List Addr}
def Le.e(l:Le R os s0 os' s1)(I:bo (R.B c C hcl X) os' en s1)(L:∀a∈ia,X a)(F:∀a∈ia,s0.heap.get? a=none)(A:kr ia s1.heap s2.heap)(E:fb s1 s2):Le R os s0 os' s2:=
 ⟨λa o n e=>aK (l.f a o n e) λG H=>⟨A a o (λm=>bw (F a m) e) G,H⟩,l.m.trans E,λi q B v e h=>(l.k i q B v e h).at λo=>A _ o λm=>(I.c.b _ (L _ m)).2 (.inr (.inl ⟨i,B,aU.g e,rfl⟩))⟩
def jO(S:cZ)(cond:List IE)(A:List Expr):Prop:=∀(R:aU S) {os:aJ} {en:List SV} {s:Shared},bo R os en s->J R os s (forIn A true λc r=>if r=true then do let B <-isTrue c R.ah (eval c R.ah);pure (ForInStep.yield B)else pure (ForInStep.yield r)) (bb (bO S.G S.call true cond en)) (PB R)
def jO.j:jO S [] []:=λR os en s I=>wpAny_tests_nil ⟨os,.d,rfl,I⟩
def jO.dI(h:SB S a e):jO S [a] [e]:=λR os en s I=>by
 have A:=h R I;show J R os s _ (((ev S.G S.call a en).i λx=>(c_ x.1).i λb=>if b=true then .oK (.u true,x.2)else .oK (.u b,x.2)).i λx=>(c_ x.1).i λb=>.oK (b,x.2)) _
 rw[(by
  unfold bb;rw[aE]
  congr 1;funext x
  rw[aE]
  congr 1;funext b
  induction b using aR<;>rfl:(((ev S.G S.call a en).i λx=>(c_ x.1).i λb=>if b=true then aD.oK (AV.u true,x.2)else .oK (.u b,x.2)).i λx=>(c_ x.1).i λb=>aD.oK (b,x.2))=bb (ev S.G S.call a en))]
 induction hr:bb (ev S.G S.call a en)using Mine.bf with
 |aA=>trivial
 |oK b=>rw[hr]at A;exact wpAny_tests_one A
 |bG=>rw[hr]at A;exact wpAny_tests_one A
inductive CompEnd(R:aU S)(C D:Addr)(os:aJ)(s0:Shared)(acc:List AV)(en':List SV)(s':Shared):Prop
 |mk (os':aJ) (m:Str->Option Value) (le:Le R os s0 os' s') (I:bo (R.plus [C]) os' en' s') (r:cf S.g ((R.plus [C]).V os' s'.heap) (.ref D) (.aj acc)) (ns:s'.heap.Ns C m)
inductive CompI(R:aU S)(R':aU (S.inner scope dY tn))(D:Addr)(St:List AV->cR->Heap->Prop){β:Type}(step:List AV->List AV->List SV->aD β)(r:aD β)(os:aJ)(s0:Shared)(m:Nat)(s':Shared):Prop
 |mk (os':aJ) (en':List SV) (rest acc:List AV) (arr:Array Value) (n:Nat) (le:Le R os s0 os' s') (I:bo R' os' en' s') (st:St rest (R'.V os' s'.heap) s'.heap) (e:rest.length=m) (hd:s'.heap.get? D=some (listOf arr n)) (ra:cm S.g (R'.V os' s'.heap) arr.toList acc) (bd:acc.length+rest.length<=dF) (h:step rest acc en'=r)
def EC{tg:List Nat}{tup:Bool}{cond:List IE}{k:List AV->cR->Heap->Prop}
 (ht:E8 (S.inner scope dY tn) tg tup t) (h1:∀i∈tg,∃x,tn.lookup i=some x) (h2:∀i x,tn.lookup i=some x->i∈tg) (he:SE (S.inner scope dY tn) elt fg) (hc:jO (S.inner scope dY tn) cond ifs)
 (O:pB S.g R.A t ita ia k) (hX:∀a,X a↔R.X a\/a=D\/a∈ia) (hn:∀a∈ia,s0.heap.get? a=none) (hD:s0.heap.get? D=none) (hC:s0.heap.get? C=none) (u:D∉ia) (f:¬R.X C/\¬R.pl C) (hx:∀a∈ia,¬R.X a) (WU:¬R.X D)
 (l0:Le R os s0 os' s) (I:bo (R.B c C hcl X) os' en s) (st:k items ((R.B c C hcl X).V os' s.heap) s.heap) (hd:s.heap.get? D=some (listOf #[] 0)) (bd:items.length<=dF)
  (h:compLoop (aN tg tup) (bO S.G S.call true cond) (ev S.G S.call elt) items [] en= .oK Y) (fin:∀s',CompEnd R C D os s0 Y.1 (gA tg Y.2) s'->RR (.ok .next) s'):
  codeAny (model S.g.prog S.g.w) R.A (.compLoop (.ListComp fg [⟨t,it,ifs,0⟩] scope pos) 0 (.ref ita) (.ref D) (compEnvC scope cl C R.ah)) RR s:=by
  have M:∀a∈ia,X a:=λa m=>(hX a).mpr (.inr (.inr m));have Q:X D:=(hX D).mpr (.inr (.inl rfl));refine yE (CompI R (R.B c C hcl X) D k (compLoop (aN tg tup) (bO S.G S.call true cond) (ev S.G S.call elt)) (.oK Y) os s0) (λm s1 q=>?_) ⟨os',en,items,[],#[],0,l0,I,st,rfl,hd,.j,by rw[List.length_nil,Nat.zero_add];exact bd,h⟩;obtain⟨dw,u4,B,E,F,n,l1,I1,GL,e1,Qc,OQ,N2,h⟩:=q
  induction B using cF with
  |nil=>
   refine bB λP0 P=>?_;cases h;obtain⟨fq,l2,U⟩:=I1.b tg;obtain⟨i,x,Xj⟩:=c.ne;obtain⟨m,ns⟩:=U.oK i (.l C x) (by show(tn.lookup i).elim _ _=_;rw[Xj];rfl);have pC:(R.B c C hcl X).pl C:=aU.b.mpr (.inr rfl);refine P (O.done Vw.at GL λs2 H sm=>?_);obtain⟨N,kv⟩:=U.q (λa q=>(hX a).mpr (.inl q)) M (λi x sv q e=>sI (.inl (h2 i x q)) e) f hx H;refine fin s2 ⟨fq,m,((l1.B l2 hC).e U M hn H sm),N,.c (arr:=F) ⟨λq=>q.elim WU λq=>(U.c.b D Q).2 (.inr (.inl (dN.mp q▸pC))),λw=>(U.c.b D Q).2 (aU.d.mpr (.inl w)),H D _ u Qc⟩ ((OQ.mono l2.f.c9).mono kv) N2,Ns.at ns λo=>H _ o λm=>(U.c.b C (M C m)).2 (.inr (.inl pC))⟩
  |cons v B=>
   refine bB λP0 P=>?_;obtain⟨wc,eb,h⟩:=aD.e (show((aN tg tup v u4).i λah=>(bO S.G S.call true cond ah).i λx=>(c_ x.1).i λb=>if b then(ev S.G S.call elt x.2).i λy=>compLoop (aN tg tup) (bO S.G S.call true cond) (ev S.G S.call elt) B (E++[y.1]) y.2 else compLoop (aN tg tup) (bO S.G S.call true cond) (ev S.G S.call elt) B E x.2)= .oK Y from h);rw[pj (f:=λx=>if x.1 then(ev S.G S.call elt x.2).i λy=>compLoop (aN tg tup) (bO S.G S.call true cond) (ev S.G S.call elt) B (E++[y.1]) y.2 else compLoop (aN tg tup) (bO S.G S.call true cond) (ev S.G S.call elt) B E x.2)]at h;obtain⟨⟨b,r⟩,ec,h⟩:=aD.e h;refine P (O.a Vw.at GL λval s2 P9=>P9 λd H sm nv JZ=>?_);have N:=I1.moved M H (O.live JZ);have l3:=l1.e I1 M hn H sm;have j:((R.B c C hcl X).V dw s1.heap).le ((R.B c C hcl X).V dw d.heap):=λa o=>And.elim λx=>And.elim λy e=>⟨x,y,H a o (λm=>x (M a m)) e⟩;have Sl:k B ((R.B c C hcl X).V dw d.heap) d.heap:=O.frame JZ (λa o q=>(j a o q).2.2) j Vw.at λJ J J e=>e;refine xH (S:=S.inner scope dY tn) (R:=R.B c C hcl X) N (λx hx=>eK (h1 x hx) λJ e=>aU.w e) ht (nv _ j λa o n e=>I1.c.new n e:cf S.g ((R.B c C hcl X).V dw d.heap) val v) eb λWb s6 l6 I6=>?_;have T:=hc (R.B c C hcl X) I6;rw[show bb (bO (S.inner scope dY tn).G (S.inner scope dY tn).call true cond wc)= .oK (b,r)from ec]at T;refine wpAny_mono T (λok s7 q=>?_) λJ J x=>x;obtain⟨Jf,l7,rfl,I7⟩:=q;have W:=l6.trans l7
   induction ok using aR with
   |false=>
    exact⟨B.length,e1▸lH _,Jf,r,B,E,F,n,l3.B W hC,I7,O.frame Sl Vw.at W.f.c9 Vw.at λa m o e=>(W.f a o (N.c.b a (M a m)).2 e).1,rfl,(W.f D _ (N.c.b D Q).2 (H D _ u Qc)).1,(OQ.mono j).mono W.f.c9,az (i0 (Nat.le_succ _) _) N2,h⟩
   |true=>
    refine bB λP0 P=>?_;obtain⟨⟨w,Ug⟩,ee,h⟩:=aD.e (show((ev S.G S.call elt r).i λy=>compLoop (aN tg tup) (bO S.G S.call true cond) (ev S.G S.call elt) B (E++[y.1]) y.2)= .oK Y from h);have T2:=he (R.B c C hcl X) I7;rw[show ev (S.inner scope dY tn).G (S.inner scope dY tn).call elt r= .oK (w,Ug)from ee]at T2;refine P (wpAny_mono T2 (λx L q=>?_) λJ J x=>x);refine bB λP0 P=>?_;obtain⟨O4,l8,I8,r8⟩:=q;have Z:=W.trans l8;have TS:=(Z.f D _ (N.c.b D Q).2 (H D _ u Qc)).1;have Sw:=(OQ.mono j).mono Z.f.c9;refine P (rV TS (by rw[(bX Sw)];exact az (eN _ _) N2) ?_);have p:kr [D] L.heap (L.heap.update D (Obj.mapSeq (·.push x))):=λb o hb e=>jR b o (λz=>hb (z▸.head _)) e;have q9:=PySem.IsL.update (h:=L.heap) (l:=D) (items:=F) (n:=n) TS (·.push x);have Gs:((R.B c C hcl X).V O4 L.heap).le ((R.B c C hcl X).V O4 (L.heap.update D (Obj.mapSeq (·.push x)))):=λa o=>And.elim λx=>And.elim λy e=>⟨x,y,p a o (λm=>x (dN.mp m▸Q)) e⟩;refine⟨B.length,e1▸lH _,O4,Ug,B,E++[w],F.push x,_,((l3.B Z hC).e (s2:={L with heap:=L.heap.update D (Obj.mapSeq (·.push x))}) (ia:=[D]) I8 (iE.mpr Q) (iE.mpr hD) p ⟨rfl,rfl⟩),(I8.moved (s':={L with heap:=L.heap.update D (Obj.mapSeq (·.push x))}) (ia:=[D]) (iE.mpr Q) p (iE.mpr ⟨_,q9⟩)),O.frame (O.frame Sl Vw.at Z.f.c9 Vw.at λa m o e=>(Z.f a o (N.c.b a (M a m)).2 e).1) Vw.at Gs Vw.at λb m o e=>p b o (λz=>u (dN.mp z▸m)) e,rfl,q9,?_,?_,h⟩
    ·rw[qk];exact(Sw.mono Gs).I (.u (r8.mono Gs) .j)
    ·rw[dc,Nat.add_assoc,show [w].length+B.length=(v::B).length from Nat.add_comm _ _];exact N2
end
def tE:c6 r≠.bG:=by cases r<;>exact nofun
def ou(h:c6 r= .oK a):r= .oK a:=by
 induction r using Mine.bf with
 |oK b=>exact h
 |bG=>cases h
 |aA=>cases h
structure uW(S:cZ)(scope:Scope)(dY:List (Str×Nat))(tn:List (Nat×Str))(elt:IE)(tg:List Nat)(tup:Bool)(k:IK)(es cond:List IE)(fg t it:Expr)(ifs:List Expr):Prop where
 c:gP S scope dY tn
 ht:E8 (S.inner scope dY tn) tg tup t
 h1:∀i∈tg,∃x,tn.lookup i=some x
 h2:∀i x,tn.lookup i=some x->i∈tg
 he:SE (S.inner scope dY tn) elt fg
 hc:jO (S.inner scope dY tn) cond ifs
 hi:IX S k t es it
section
variable {S:cZ}{scope:Scope}{dY:List (Str×Nat)}{tn:List (Nat×Str)}{R:aU S}{os os':aJ}{en en':List SV}{s s':Shared}{elt:IE}{tg:List Nat}{tup:Bool}{k:IK}{es cond:List IE}{fg t it:Expr}{ifs:List Expr}{pos:Pos}
def qz(x:uW S scope dY tn elt tg tup k es cond fg t it ifs)(I:bo R os en s)(e1:h9 S k es en= .oK b)
 (e2:compLoop (aN tg tup) (bO S.G S.call true cond) (ev S.G S.call elt) b.1 [] b.2= .oK rr)
 (fin:∀C D s',¬R.X C->(∀o,s.heap.get? C=some o->R.W os C)->CompEnd R C D os s rr.1 (gA tg rr.2) s'->compPost (model S.g.prog S.g.w) R.A E use Q (.ref D) C (.ok .next) s'):
 wpAny (model S.g.prog S.g.w) R.A (comprehension (.ListComp fg [⟨t,it,ifs,0⟩] scope pos) scope R.ah p (newList []) false (eval it R.ah) use) Q E s:=by
 refine bB λP0 aC=>?_;obtain⟨c,ht,h1,h2,he,hc,hi⟩:=x;obtain⟨cl,HL,P⟩:=c.Cv R;have Z:=hi.2 R I;rw[e1]at Z;refine aC (wpAny_comprehension_free rfl (hi.1 R.ah) HL c.f c.a (wpAny_mono Z (λv s0 dO=>eK dO λdw ka=>eK ka λH sD=>aK sD λl1 Gk=>aK Gk λd q=>wpAny_mono (q E) (λWN B q=>?_) λJ J x=>x) λJ J x=>x.elim));obtain⟨Y,y,St,rfl,bd,j,N,sm,z,lv,l⟩:=q;refine wpAny_newList (wpAny_newFunctionEnv c.cell (λJ m=>absurd m List.not_mem_nil) (λM ns sb=>?_) c.f) (da _);have U:(B.heap.push (listOf #[] 0)).objs.size=B.heap.objs.size+1:=Heap.size_push ..;have k4:∀a o,a<(B.heap.push (listOf #[] 0)).objs.size->(B.heap.push (listOf #[] 0)).get? a=some o->M.get? a=some o:=λa o lt e=>(sb.2 a (Nat.ne_of_lt lt)).trans (aI a o e);have u:B.heap.StaysIn M:=λa o e=>k4 a o (by rw[U];exact Nat.lt_succ_of_lt (Heap.lt_size e)) (aI a o e);have Tb:H.heap.StaysIn M:=λa o e=>u a o (N a o e);have F:∀{a},B.heap.get? a=none->H.heap.get? a=none:=λh=>c8 λo e=>bw h (N _ o e);have r:H.heap.get? B.heap.objs.size=none:=F bJ;have O:H.heap.get? (B.heap.push (listOf #[] 0)).objs.size=none:=F (d4 (by rw[U];exact Nat.le_succ _));have dD:M.get? B.heap.objs.size=some (listOf #[] 0):=k4 _ _ (by rw[U];exact lH _) (ib _ rfl);have FE:∀{a},a∈y->a<B.heap.objs.size:=λm=>eK (lv _ m) λo e=>Heap.lt_size e;have f:=d.c.fresh O
 obtain⟨I4,kv⟩:=d.n (R:=R) (c:=c) (hcl:=P) (C:=(B.heap.push (listOf #[] 0)).objs.size) (ia:=B.heap.objs.size::y) (s':={B with heap:=M,toks:=B.toks+([]:List (Str×Value)).length}) Tb (cu.mpr ⟨r,z⟩) (cu.mpr ⟨⟨_,dD⟩,λa m=>eK (lv a m) λo e=>⟨o,u a o e⟩⟩) O (λm=>by
  rcases iZ.mp m with m |m
  ·rw[U]at m;exact Nat.succ_ne_self _ m
  ·have:=FE m;rw[U]at this;exact Nat.lt_irrefl _ (Nat.lt_of_succ_lt this)) ns
 have i:∀{a},H.heap.get? a=none->¬R.X a:=λh=>(d.c.fresh h).1;have L:=EC (s:={B with heap:=M,toks:=B.toks+([]:List (Str×Value)).length}) (pos:=pos) (t:=t) (it:=it) (ita:=Y) (s0:=H) (RR:=compPost (model S.g.prog S.g.w) R.A E use Q (.ref B.heap.objs.size) (B.heap.push (listOf #[] 0)).objs.size) ht h1 h2 he hc j (λa=>⟨λh=>h.imp id λm=>iZ.mp m,λh=>h.imp id λm=>iZ.mpr m⟩) z r O (λm=>Nat.lt_irrefl _ (FE m)) ⟨f.1,λw=>f.2 (.inr (.inl w))⟩ (λa m=>i (z a m)) (i r) (.b Tb ⟨sm.1,sm.2⟩) I4
  (st:=j.frame (l (R.V dw H.heap) (λJ J h=>h) λa o q=>N a o q.2.2) (λa o q=>N a o q.2.2) kv Vw.at λa J o e=>u a o e) dD bd e2 λs' q=>fin _ _ s' (i O) ?_ ?_
 ·exact codeAny_compStart_list L (j.self (j.frame (l (R.V dw H.heap) (λJ J h=>h) λa o q=>N a o q.2.2) (λa o q=>N a o q.2.2) kv Vw.at λa J o e=>u a o e) L)
 ·exact λo e=>Classical.byContradiction λn=>bw O (l1.f _ o n e).1
 ·obtain⟨os',m,le,a3,a4,a5⟩:=q;exact⟨os',m,l1.trans le,a3,a4,a5⟩
end
section
variable {S:cZ}{scope:Scope}{dY:List (Str×Nat)}{tn:List (Nat×Str)}{R:aU S}{os os':aJ}{en en':List SV}{s s':Shared}{elt:IE}{tg:List Nat}{tup:Bool}{k:IK}{es cond:List IE}{fg t it:Expr}{ifs:List Expr}{pos:Pos}
def qy(H:¬R.X C)(L:∀o,s.heap.get? C=some o->R.W os C)(B:Le R os s os' s')(I:bo (R.plus [C]) os' en s')(F:Heap.SameBut C s'.heap h'):A3 (Le R os s os' {s' with heap:=h'}) (bo R os' en {s' with heap:=h'}) (((R.plus [C]).V os' s'.heap).le (R.V os' h')):=by
 have A:kr [C] s'.heap h':=λb o E e=>(F.2 b (λz=>E (z▸.head _))).trans e;refine⟨⟨λa o n e=>aK (B.f a o n e) λM G=>⟨A a o (λz=>n (dN.mp z▸L o (dN.mp z▸e))) M,G⟩,B.m.trans ⟨rfl,rfl⟩,λi q D v e h=>(B.k i q D v e h).at λo=>A _ o λm=>(I.c.b _ (.inr m)).2 (.inr (.inl ⟨i,D,e,rfl⟩))⟩,I.ended (iE.mpr H) A,λa o=>And.elim λx=>And.elim λy e=>⟨λq=>x (.inl q),y,A a o (λm=>x (.inr m)) e⟩⟩
def xy:ev S.G S.call (.B elt tg tup k es cond) en=(h9 S k es en).i λb=>(c6 (compLoop (aN tg tup) (bO S.G S.call true cond) (ev S.G S.call elt) b.1 [] b.2)).i λr=>.oK (.aj r.1,gA tg r.2):=by
 show((bu S.G S.call es en).i λb=>(aD.d (bz k b.1)).i λA=>(c6 (compLoop (aN tg tup) (bO S.G S.call true cond) (ev S.G S.call elt) A [] b.2)).i λr=>aD.oK (AV.aj r.1,gA tg r.2))=_
 unfold h9;rw[aE]
 congr 1;funext x
 rw[aE];rfl
def uw(x:uW S scope dY tn elt tg tup k es cond fg t it ifs)(I:bo R os en s)(D:h9 S k es en= .bG):
 wpAny (model S.g.prog S.g.w) R.A (comprehension (.ListComp fg [⟨t,it,ifs,0⟩] scope pos) scope R.ah p (newList []) false (eval it R.ah) use) Q (XE R (R.W os) s) s:=by
 refine bB λG C=>?_;obtain⟨H,E,F⟩:=x.c.Cv R;have B:=x.hi.2 R I;rw[D]at B;exact C (wpAny_comprehension_free rfl (x.hi.1 R.ah) E x.c.f x.c.a (wpAny_mono B (λz z q=>q.elim) λz z e=>e))
def SE.B(x:uW S scope dY tn elt tg tup k es cond fg t it ifs):SE S (.B elt tg tup k es cond) (.ListComp fg [⟨t,it,ifs,0⟩] scope pos):=λR os en s I=>by
 rw[xy,eval_ListComp]
 induction e1:h9 S k es en using Mine.bf with
 |aA=>trivial
 |bG=>exact uw x I e1
 |oK b=>
  show J R os s _ ((c6 _).i _) _
  induction e2:c6 (compLoop (aN tg tup) (bO S.G S.call true cond) (ev S.G S.call elt) b.1 [] b.2)using Mine.bf with
  |aA=>trivial
  |bG=>exact absurd e2 tE
  |oK O=>exact qz x I (use:=Option.none) e1 (ou e2) λC D s' H B L=>by obtain⟨os',m,A,F,r,E⟩:=L;exact⟨m,E,λN M=>by obtain⟨a,b,c⟩:=qy H B A F M;exact⟨os',a,b,r.mono c⟩⟩
def S1.O(x:uW S scope dY tn elt tg tup k es cond fg t it ifs)(hs:∀ah:Env,ah.scope=S.sc->swapsWith (.ListComp fg [⟨t,it,ifs,0⟩] scope pos) (some (.Name nm np)) p.line ah=pure true)(N:S.dY.lookup nm=some y)(Z:S.lo<=y):
 S1 S (.h y false (.B elt tg tup k es cond)) (.Assign [.Name nm np] (.ListComp fg [⟨t,it,ifs,0⟩] scope pos) p):=λR M os en s I=>by
 rw[exec_Assign_Name_used _ _ _ _ (hs R.ah M.b)]
 have e:eG S.G S.call (.h y false (.B elt tg tup k es cond)) en=(h9 S k es en).i λb=>(c6 (compLoop (aN tg tup) (bO S.G S.call true cond) (ev S.G S.call elt) b.1 [] b.2)).i λr=>(aV (gA tg r.2) y (.h (.aj r.1))).i λah=>.oK (.a,ah):=by
  show((ev S.G S.call (.B elt tg tup k es cond) en).i λb=>aD.oK (SV.h b.1,b.2)).i _=_
  rw[xy,aE,aE]
  congr 1;funext b
  rw[aE];rfl
 rw[e];refine J.h ?_
 have B:∀{Q:Flow->Shared->Prop} {E:Value->Shared->Prop},wpAny (model S.g.prog S.g.w) R.A (comprehension (.ListComp fg [⟨t,it,ifs,0⟩] scope pos) scope R.ah (firstIterPos [⟨t,it,ifs,0⟩] pos) (newList []) false (eval it R.ah) (some (assign (.Name nm np) R.ah))) (λK s'=>Q .next s') E s->
  wpAny (model S.g.prog S.g.w) R.A (evalThenUse (.ListComp fg [⟨t,it,ifs,0⟩] scope pos) R.ah (assign (.Name nm np) R.ah)>>=λK=>pure .next) Q E s:=λh=>by
  refine wpAny_bind ?_;show wpAny _ _ (do let _ <-comprehension (.ListComp fg [⟨t,it,ifs,0⟩] scope pos) scope R.ah (firstIterPos [⟨t,it,ifs,0⟩] pos) (newList []) false (eval it R.ah) (some (assign (.Name nm np) R.ah))) _ _ s;exact wpAny_bind (wpAny_mono h (λK K q=>wpAny_pure (wpAny_pure q)) λK K e=>e)
 induction e1:h9 S k es en using Mine.bf with
 |aA=>trivial
 |bG=>exact B (uw x I e1)
 |oK b=>
  show J R os s _ ((c6 _).i _) _
  induction e2:c6 (compLoop (aN tg tup) (bO S.G S.call true cond) (ev S.G S.call elt) b.1 [] b.2)using Mine.bf with
  |aA=>trivial
  |bG=>exact absurd e2 tE
  |oK F=>
   show J R os s _ ((aV (gA tg F.2) y (.h (.aj F.1))).i λah=>.oK (Fl.a,ah)) _
   induction e3:aV (gA tg F.2) y (.h (.aj F.1))using Mine.bf with
   |aA=>trivial
   |bG=>exact absurd e3 iK
   |oK en'=>
    obtain⟨V,rfl⟩:=kD e3;refine B (qz x I e1 (ou e2) λC D s' W P O=>?_);obtain⟨os',m,X,H,r,U⟩:=O;refine wpAny_assign_Name (kY (R:=R.plus [C]) H.toeO (M.plus.a Z) N (o1:=[]) (o2:=[]) (by rw[H.tm];exact .refl _) (.f (.v r)) V λY z L j=>⟨m,Ns.at U λo e=>(L.le.f C o (H.c.b C (.inr (.head _))).2 e).1,λl u=>?_⟩);obtain⟨a,b,c⟩:=qy W P (X.trans L.le.under) ⟨j,L.tm⟩ u;exact⟨Y,a,.a b⟩
end
abbrev r_(M:Model)(h:Heap)(fd:FuncData)(B:List Str)(C:List Value):Prop:=∀A:List Value,A.length<=B.length->B.length<=A.length+C.length->Looks M h (bindArgs fd ⟨A,[]⟩) (B.zip (A++C.drop (A.length+C.length-B.length)))
noncomputable def lh(fd:FuncData):List Str:=fd.params.args.map (·.arg)
noncomputable def uq(K:Frag)(fd:FuncData):List Value:=match fd.defaults with |.ref T=>(match K.lookup T with |some ⟨_,_,.seq AL _,_⟩=>AL.toList |_ =>[])|_ =>[]
def Q7(K:Frag)(S:Setting)(fd:FuncData)(vs:List Value)(k:Nat):Option (List (Str×Value)):=if k<=(lh fd).length/\(lh fd).length<=k+(uq K fd).length then peek K S (bindArgs fd ⟨vs.take k,[]⟩)else none
def Q6(K:Frag)(fd:FuncData)(vs:List Value)(k:Nat):Option (List (Str×Value)):=if k<=(lh fd).length/\(lh fd).length<=k+(uq K fd).length then some ((lh fd).zip (vs.take k++(uq K fd).drop (k+(uq K fd).length-(lh fd).length)))else none
set_option tactic.hygienic true in
def xU{vals:List Value}(h:vals.length<=10):((List.range 10).map λi=>vals.getD i .none).take vals.length=vals:=by
 refine List.ext_getElem? λi=>?_;rw[List.getElem?_take,di]
 split
 ·rename_i q;rw[List.getElem?_range (gZ q h)];show some (vals.getD i .none)=_;rw[kM,ij q];rfl
 ·rename_i q;rw[List.getElem?_eq_none (eH.mp q)]
def BN{K:Frag}(X:K.In h)(l:(lh fd).length<=10)(e:∀v:Nat->Value,(List.range 11).map (Q7 K ⟨M.prog,M.w.params⟩ fd ((List.range 10).map v))=(List.range 11).map (Q6 K fd ((List.range 10).map v))):r_ M h fd (lh fd) (uq K fd):=λA B C=>by
 have D:=az B l;have:=List.map_inj_left.mp (e λi=>A.getD i .none) A.length (List.mem_range.mpr (Nat.lt_succ_of_le D));unfold Q7 Q6 at this;rw[if_pos ⟨B,C⟩,if_pos ⟨B,C⟩,xU D]at this;exact Looks.of_peek X this
theorem kJ:∀{names:List (Str×NameKind)} {n:Nat} {acc:List (Str×Addr)},(∃a,acc.lookup x=some a)->∃a,(cellsFrom n names acc).lookup x=some a
 |[],_,_,h=>h
 |(y,k)::r,n,acc,h=>by
  unfold cellsFrom
  split
  ·refine kJ ?_;rw[List.lookup_cons]
   induction e:x==y using aR with
   |true=>exact⟨n,rfl⟩
   |false=>exact h
  ·exact kJ h
def o_:∀{names:List (Str×NameKind)} {n:Nat} {acc:List (Str×Addr)},(x,.cell)∈names->∃a,(cellsFrom n names acc).lookup x=some a:=by
 intro names
 induction names with
 |nil=>exact λh=>absurd h List.not_mem_nil
 |cons p r A=>
  intro n acc h;obtain⟨y,k⟩:=p;unfold cellsFrom
  cases h with
  |head=>
   rw[if_pos (by rfl)];exact kJ ⟨n,by rw[List.lookup_cons,beq_self_eq_true]⟩
  |tail _ h=>
   split
   ·exact A h
   ·exact A h
set_option tactic.hygienic true in
def wo:∀{names:List (Str×NameKind)} {n:Nat} {acc:List (Str×Addr)},(x,.cell)∉names->acc.lookup x=none->(cellsFrom n names acc).lookup x=none:=by
 intro names
 induction names with
 |nil=>exact λz h=>h
 |cons p r B=>
  intro n acc A h;obtain⟨y,k⟩:=p;unfold cellsFrom
  split
  ·rename_i C;refine B (λm=>A (.tail _ m)) ?_;rw[List.lookup_cons,beq_false_of_ne λ(e:x=y)=>A (by rw[e,<-show k= .cell from beq_iff_eq.mp C];exact .head _)];exact h
  ·exact B (λm=>A (.tail _ m)) h
theorem uH:∀{A:List Str} {ws:List Value} {m:Str->Option Value},x∉A->bindL k (A.zip ws) m x=m x
 |[],_,_,_ =>rfl
 |_ ::_,[],_,_ =>rfl
 |p::A,w::ws,m,h=>by
  show bindL k (A.zip ws) _ x=_;rw[uH λz=>h (.tail _ z)]
  split
  ·exact if_neg λ(z:x=p)=>h (z▸.head _)
  ·rfl
theorem uI:∀{A:List Str} {ws:List Value} {m:Str->Option Value},x∉A->bindC k (A.zip ws) m x=m x
 |[],_,_,_ =>rfl
 |_ ::_,[],_,_ =>rfl
 |p::A,w::ws,m,h=>by
  show bindC k (A.zip ws) _ x=_;rw[uI λz=>h (.tail _ z)]
  split
  ·rfl
  ·exact if_neg λ(z:x=p)=>h (z▸.head _)
def BO:∀{A:List Str} {ws:List Value} {i:Nat} {m:Str->Option Value},A.Nodup->A[i]? =some x->ws[i]? =some v->(k x=some .local->bindL k (A.zip ws) m x=some v)/\(k x≠some .local->bindC k (A.zip ws) m x=some v):=by
 intro A
 induction A with
 |nil=>exact λz h=>nomatch h
 |cons p A E=>
  intro ws i m D h C
  induction ws using cF with
  |nil=>cases C
  |cons w ws=>
  induction i using dU with
  |zero=>
   obtain⟨F,_⟩:=List.nodup_cons.mp D;cases h;cases C;refine⟨λB=>?_,λB=>?_⟩
   ·show bindL k (A.zip ws) (if k x=some .local then _ else _) x=_;rw[uH F,if_pos B];exact if_pos rfl
   ·show bindC k (A.zip ws) (if k x=some .local then _ else _) x=_;rw[uI F,if_neg B];exact if_pos rfl
  |succ i=>exact⟨λB=>(E (List.nodup_cons.mp D).2 h C).1 B,λB=>(E (List.nodup_cons.mp D).2 h C).2 B⟩
structure hJ(S:cZ)(slots:List (Nat×Str))(ah:Env)(A:Around)(l:List Env)(O:ie)(L:Addr):Prop where
 f:S.sc.kind= .function
 glob:ah.globals=mainGlobals
 blt:ah.builtins=builtinsNs
 frame:ah.frame=some L
 loc:ah.locals=L
 sc:ah.scope=S.sc
 ig:∀m,mM 1 S.n A (ah::l) ((L,m)::O)
 b:S.b=λi=>(slots.lookup i).isSome || i==999999
 v:∀x i,S.dY.lookup x=some i->slots.lookup i=some x
 s:∀i x,slots.lookup i=some x->S.dY.lookup x=some i/\x≠⟨#[]⟩/\i≠999999/\(S.sc.names.lookup x=some .local/\ah.cells.lookup x=none\/S.sc.names.lookup x=some .cell/\∃a,ah.cells.lookup x=some a)
 nf:∀x,S.sc.names.lookup x≠some .free
section
variable {S:cZ}{slots:List (Nat×Str)}{ah:Env}{A:Around}{l:List Env}{O:ie}{L:Addr}{X:dJ}
noncomputable def hJ.run(e:hJ S slots ah A l O L)(X:dJ):aU S where
 A:=A
 ah:=ah
 l:=ah::l
 O:=O
 cx i:=if i=999999 then some (.l L ⟨#[]⟩)else(slots.lookup i).map λx=>(ah.cells.lookup x).elim (.l L x) .c
 X:=X
 kp i:=decide (i<S.lo)
 st:=true
 f:=by rw[e.sc];exact e.f
 glob:=e.glob
 blt:=e.blt
 L:=L
 Li:=999999
 Lx:=⟨#[]⟩
 frame:=e.frame
 p:=if_pos rfl
 t i l h:=by
  rw[e.b]
  by_cases q:i=999999
  ·subst q;exact Bool.or_true _
  ·rw[if_neg q]at h;refine pK h λx e1 z=>?_
   show((slots.lookup i).isSome || _)=true
   rw[e1];rfl
 ig:=e.ig
 v x i h:=by
  refine bB λP0 aC=>?_;have q:=e.v x i h;obtain⟨_,_,q3,q4⟩:=e.s i x q;refine aC (⟨(ah.cells.lookup x).elim (.l L x) .c,by rw[if_neg q3,q];rfl,?_⟩)
  have hk:ah.kindOf x=S.sc.names.lookup x:=by unfold Env.kindOf;rw[e.sc]
  rcases q4 with⟨k1,k2⟩|⟨k1,a,k2⟩
  ·rw[k2];exact .inl ⟨hk.trans k1,by rw[e.loc];rfl⟩
  ·rw[k2];exact .inr ⟨.inl (hk.trans k1),a,k2,rfl⟩
 gl x k h _ :=by unfold Env.kindOf;rw[e.sc];exact h
def hJ.bk(e:hJ S slots ah A l O L):uS (e.run X):=
 ⟨λx h=>decide_eq_false (eH.mpr h),rfl,⟨l,rfl⟩,λx=>by show ah.kindOf x≠_;unfold Env.kindOf;rw[e.sc];exact e.nf x,e.sc⟩
def hJ.cx(e:hJ S slots ah A l O L)(h:(e.run X).cx i=some lc):(i=999999/\lc= .l L ⟨#[]⟩)\/∃x,slots.lookup i=some x/\(S.sc.names.lookup x=some .local/\lc= .l L x\/S.sc.names.lookup x=some .cell/\∃a,ah.cells.lookup x=some a/\lc= .c a):=by
 change(if i=999999 then some (Loc.l L ⟨#[]⟩)else(slots.lookup i).map λx=>(ah.cells.lookup x).elim (.l L x) .c)=some lc at h
 by_cases q:i=999999
 ·rw[if_pos q]at h;cases h;exact .inl ⟨q,rfl⟩
 ·rw[if_neg q]at h;refine pK h λx E C=>?_;refine .inr ⟨x,E,?_⟩;rcases(e.s i x E).2.2.2 with⟨D,B⟩|⟨D,a,B⟩
  ·rw[B]at C;exact .inl ⟨D,C.symm⟩
  ·rw[B]at C;exact .inr ⟨D,a,B,C.symm⟩
def hJ.at(e:hJ S slots ah A l O L)(h:slots.lookup i=some x):∃D,(e.run X).cx i=some D/\(S.sc.names.lookup x=some .local/\D= .l L x\/S.sc.names.lookup x=some .cell/\∃a,ah.cells.lookup x=some a/\D= .c a):=by
 refine bB λG F=>?_;obtain⟨_,_,E,q4⟩:=e.s i x h;refine F ?_;rcases q4 with⟨C,B⟩|⟨C,a,B⟩
 ·exact⟨.l L x,by show(if _ then _ else _)=_;rw[if_neg E,h];show some ((ah.cells.lookup x).elim _ _)=_;rw[B];rfl,.inl ⟨C,rfl⟩⟩
 ·exact⟨.c a,by show(if _ then _ else _)=_;rw[if_neg E,h];show some ((ah.cells.lookup x).elim _ _)=_;rw[B];rfl,.inr ⟨C,a,B,rfl⟩⟩
variable {os:aJ}{en args:List SV}{s s1:Shared}{vals ws:List Value}{ps:List Str}
def hJ.inv(e:hJ S slots ah A l O L)(C:cU S.g O X cA (At vals) os args s.heap)(tm:os tI=[])(hl:vals.length=args.length)(x:InCallC s L (bindL ah.kindOf (ps.zip ws) λJ=>none) ah.cells (bindC ah.kindOf (ps.zip ws) λJ=>none) s1)(nd:ps.Nodup)(hp:∀i x,ps[i]? =some x->slots.lookup i=some x)
 (hw:∀(i:Nat) v,vals[i]? =some v->ws[i]? =some v) (TB:vals.length<=ps.length) (Ef:∀i sv,en[i]? =some sv->sv≠.a->args[i]? =some sv\/i<ps.length/\vals.length<=i/\∃v a,ws[i]? =some v/\sv= .h a/\cf S.g (gJ S.g.base) v a) (P_:∀i:Nat,en[i]? =none\/en[i]? =some SV.a->args[i]? =none\/args[i]? =some SV.a) (len:en.length<=tI):
 bo (e.run X) os en s1/\(∀a,(e.run X).pl a->s.heap.get? a=none)/\∀i v,vals[i]? =some v->(e.run X).hold s1.heap i v:=by
 have N:s.heap.StaysIn s1.heap:=x.toInCall.keep
 have t:∀y,ah.kindOf y=S.sc.names.lookup y:=λy=>by unfold Env.kindOf;rw[e.sc]
 have E:∀a,(e.run X).pl a->s.heap.get? a=none:=λa w=>by
  obtain⟨i,F,h,rfl⟩:=w;rcases e.cx h with⟨_,rfl⟩|⟨y,_,⟨_,rfl⟩|⟨_,a,I,rfl⟩⟩
  ·exact d4 x.toInCall.fresh
  ·exact d4 x.toInCall.fresh
  ·exact d4 (az x.toInCall.fresh (fj (x.above y a (bD I))))
 have ok:∀i F,(e.run X).cx i=some F->F.okIn s1.heap:=λi F h=>by
  rcases e.cx h with⟨_,rfl⟩|⟨y,_,⟨_,rfl⟩|⟨_,a,I,rfl⟩⟩
  ·exact⟨_,x.toInCall.ns⟩
  ·exact⟨_,x.toInCall.ns⟩
  ·exact⟨_,x.cell y a I⟩
 have D:∀i v,i<ps.length->ws[i]? =some v->(e.run X).hold s1.heap i v:=λi v d hv=>by
  obtain⟨p,Tu⟩:∃p,ps[i]? =some p:=⟨_,ij d⟩;have bg:=BO (k:=ah.kindOf) (m:=λJ=>none) nd Tu hv;obtain⟨F,M,I⟩:=e.at (X:=X) (hp i p Tu);refine⟨F,M,?_⟩;rcases I with⟨c,rfl⟩|⟨c,a,h3,rfl⟩
  ·exact⟨_,x.toInCall.ns,bg.1 ((t p).trans c)⟩
  ·have:=x.cell p a h3;rw[bg.2 (by rw[t,c];exact nofun)]at this;exact this
 have w0:∀{a},(e.run X).W os a->Wr O cA os a\/s.heap.get? a=none:=λw=>by
  rcases w with w |w |w
  ·exact .inl (.inl w)
  ·exact .inr (E _ w)
  ·exact .inl (.inr (.inr w))
 have Z:(Vw X (Wr O cA os) s.heap).le ((e.run X).V os s1.heap):=λa o=>And.elim λH=>And.elim λQ q3=>⟨H,λw=>(w0 w).elim Q λn=>bw n q3,N a o q3⟩;refine⟨⟨⟨⟨λa o h=>Z a o (C.base a o h),λa h=>?_,λp u=>(C.n p u).keeps N,λa h=>?_,λi a m=>⟨(C.e i a m).1,λh=>?_⟩,C.nd,C.k,λi Y h=>C.emp i Y (P_ i h),λa m=>eK (C.q a m) λo q=>⟨o,N a o q⟩,λi sv h hu=>?_⟩,ok,λi j F M I=>?_,len⟩,tm⟩,E,λi v h=>D i v (gZ (aS h) TB) (hw i v h)⟩
 ·obtain⟨⟨o,H⟩,Q⟩:=C.b a h;exact⟨⟨o,N a o H⟩,λw=>(w0 w).elim Q λn=>bw n H⟩
 ·obtain⟨i,F,M,rfl⟩:=id h;exact⟨(ok i F M).live,λp u q=>by obtain⟨o,e1⟩:=Ns.live (C.n p u);exact bw (E _ h) (q▸e1)⟩
 ·exact(C.fresh (E _ h)).2 (.inr (.inr ⟨i,m⟩))
 ·rcases Ef i sv h hu with h |⟨d,ge,v,a,M,rfl,r⟩
  ·obtain⟨v,H,Q⟩:=C.slot i sv h hu;exact⟨v,D i v (gZ (aS (show vals[i]? =some v from H)) TB) (hw i v H),Q.mono Z λa J o=>N a o⟩
  ·have z:os i=[]:=by
    by_cases Y:i=tI
    ·rw[Y];exact tm
    ·exact C.emp i Y (.inl (List.getElem?_eq_none (by rw[<-hl];exact ge)))
   exact⟨v,D i v d M,by rw[z];exact .f (.v (r.mono λa o q=>Z a o (C.base a o q)))⟩
 ·rcases e.cx M with⟨R,rfl⟩|⟨y,R,G⟩<;>rcases e.cx I with⟨U,B⟩|⟨z,U,B⟩
  ·rw[R,U]
  ·rcases B with⟨_,B⟩|⟨_,_,_,B⟩<;>cases B;exact absurd rfl (e.s j _ U).2.1
  ·subst B;rcases G with⟨_,G⟩|⟨_,_,_,G⟩<;>cases G
   exact absurd rfl (e.s i _ R).2.1
  ·have P:y=z:=by
    rcases G with⟨_,rfl⟩|⟨_,a,G,rfl⟩<;>rcases B with⟨_,B⟩|⟨_,b,B,b3⟩
    ·cases B;rfl
    ·cases b3
    ·cases B
    ·cases b3;exact name_of_addr x.apart (bD G) (bD B)
   subst P;exact dG ((e.s i y R).1.symm.trans (e.s j y U).1)
end
theorem jG{B A h:Heap}(k:A.StaysIn B):∀{l:List Env},h.FunFrames B l->h.FunFrames A l
 |[],_ =>trivial
 |_ ::_,⟨hk,⟨L,o,hf,hn,r⟩,hr⟩=>⟨hk,⟨L,o,hf,c8 λC e=>bw hn (k _ _ e),r⟩,jG k hr⟩
def t9(k:L.StaysIn B)(x:Heap.FlyingW B l e cls a0 h):Heap.FlyingW L l e cls a0 h:=by
 refine bB λQ C=>?_;obtain⟨O,I,D,G,A,T,oT,H,M,E,N,P,F,r⟩:=x;exact C (⟨λb o q=>O b o (k b o q),c8 λo q=>bw I (k _ _ q),jG k D,G,A,T,oT,H,M,E,N,P,c8 λo q=>bw F (k _ _ q),r⟩)
theorem jT:∀{n:Nat} {l:List SV},(jq n l).length=n
 |0,_ =>rfl
 |n+1,[]=>congrArg Nat.succ (jT (n:=n) (l:=[]))
 |n+1,_ ::l=>congrArg Nat.succ (jT (n:=n) (l:=l))
theorem jU:∀{n:Nat} {l:List SV} {i:Nat},i<n->(jq n l)[i]? =some ((l[i]?).getD .a)
 |n+1,[],0,_ =>rfl
 |n+1,_ ::_,0,_ =>rfl
 |n+1,[],i+1,h=>jU (n:=n) (l:=[]) (Nat.lt_of_succ_lt_succ h)
 |n+1,_ ::l,i+1,h=>jU (n:=n) (l:=l) (Nat.lt_of_succ_lt_succ h)
section
variable {S:cZ}{R:aU S}{W:dJ}{s₀ s:Shared}{e:Value}
def XE.leave(X:uS R)(D:R.l=R.ah::outer)(x:XE R W s₀ e s)(N:∀s',XP R.O outer S.cB W s₀ e s'->Q () s'):wpAny (model S.g.prog S.g.w) R.A (leaving R.ah e) Q E s:=by
 unfold leaving;refine wpAny_bind (x.b X λk I=>?_);obtain⟨B,a,U,C,rfl,Y,L,y⟩:=I;refine wpAny_landsW Y λz F j=>N _ ⟨a,U,rfl,λm M=>?_,jX L j,y⟩;rw[D]at F;refine bB λp G=>?_;obtain⟨u,V,⟨_,_,H⟩,Z⟩:=F;exact G (t9 (λb o q=>aK (M b o q) λP v=>C b o P v) ⟨u,V,H,Z⟩)
end
section
variable {S:cZ}{slots:List (Nat×Str)}{ah:Env}{A:Around}{l:List Env}{O:ie}{L:Addr}{X:dJ}{os os':aJ}{en':List SV}{s s1 s':Shared}{vals:List Value}
def hJ.leave(e:hJ S slots ah A l O L)(H:∀a,(e.run X).pl a->s.heap.get? a=none)(C:∀i v,vals[i]? =some v->(e.run X).hold s1.heap i v)(st:s.heap.StaysIn s1.heap)(Z:fb s s1)(F:Le (e.run X) os s1 os' s')(I:eO (e.run X) os' en' s')(TC:S.lo<=vals.length){v:Value}(y:ki S.g ((e.run X).V os' s'.heap) s'.heap v sv (os' tI)):
 ∃t,QC S.g O X vals os s (sv,jq S.lo en') v s' t:=by
 have B:∀{i a},a∈(if i<S.lo\/i=tI then os' i else [])->a∈os' i:=λ{i a} m=>by
  split at m
  ·exact m
  ·cases m
 have G:∀{a},Wr O cA (λi=>if i<S.lo\/i=tI then os' i else []) a->(e.run X).W os' a:=λw=>by
  rcases w with w |w |⟨j,w⟩
  ·exact .inl w
  ·exact w.elim
  ·exact .inr (.inr ⟨j,B w⟩)
 have D:((e.run X).V os' s'.heap).le (Vw X (Wr O cA (λi=>if i<S.lo\/i=tI then os' i else [])) s'.heap):=λa o=>And.elim λE=>And.elim λM p=>⟨E,λw=>M (G w),p⟩;refine⟨_,⟨λa o n q=>?_,Z.trans F.m,⟨λa o h=>D a o (I.c.base a o h),λa h=>⟨(I.c.b a h).1,λw=>(I.c.b a h).2 (G w)⟩,I.c.n,λJ h=>h.elim,λi a m=>⟨(I.c.e i a (B m)).1,λh=>h⟩,λi=>?_,λi j a U m m'=>I.c.k i j a U (B m) (B m'),λi Q h=>?_,λa m=>I.c.q a (B m),λi sv h P=>?_⟩,?_⟩⟩
 ·obtain⟨E,M⟩:=F.f a o (λw=>by
   rcases w with w |w |w
   ·exact n (.inl w)
   ·exact bw (H a w) q
   ·exact n (.inr (.inr w))) (st a o q)
  exact⟨E,λw=>M (G w)⟩
 ·show(if i<S.lo\/i=tI then os' i else []).Nodup
  split
  ·exact I.c.nd i
  ·exact .nil
 ·show(if i<S.lo\/i=tI then os' i else [])=[]
  by_cases q:i<S.lo
  ·rw[if_pos (.inl q)];rw[jU q]at h;refine I.c.emp i Q ?_
   induction z:en'[i]? using aF with
   |none=>exact .inl rfl
   |some w=>
    rw[z]at h;exact .inr (h.elim nofun λh=>by cases h;rfl)
  ·exact if_neg λz=>z.elim q Q
 ·have q:i<S.lo:=by have:=aS h;rw[jT]at this;exact this
  rw[jU q]at h
  induction z:en'[i]? using aF with
  |none=>rw[z]at h;cases h;exact absurd rfl P
  |some w=>
   rw[z]at h;refine bB λP0 Y=>?_;cases h;obtain⟨v,⟨x,R,h2⟩,r⟩:=I.c.slot i w z P;obtain⟨u,N⟩:∃u,vals[i]? =some u:=⟨_,ij (gZ q TC)⟩;obtain⟨WJ,d,b⟩:=C i u N;cases R.symm.trans d
   cases(F.k i (decide_eq_true q) x u R b).inj h2
   refine Y (⟨_,N,?_⟩);rw[if_pos (.inl q)];exact r.mono D λJ J J q=>q
 ·show ki _ _ _ _ _ (if tI<S.lo\/tI=tI then os' tI else []);rw[if_pos (.inr rfl)];exact y.mono D λJ J J q=>q
end
inductive Jz(g:Gd)(cB:Addr)(G:jn)(gU:Nat->Nat)(f:Nat)(d:List IS×Nat×List AV×Nat×Nat):Prop
 |mk (o:Obj) (fd:FuncData) (ps:List Str) (ds:List Value) (dY:List (Str×Nat)) (slots:List (Nat×Str)) (body:List Stmt)
  (ho:g.base.get? (g.iH f)=some o) (hd:o.data= .func fd) (cr:g.base.CodeRec fd.code fd.qualname) (gl:fd.globals=mainGlobals) (bl:fd.builtins=builtinsNs) (cl:fd.closure=[])
  (pb:r_ (model g.prog g.w) g.base fd ps ds) (NB:cm g (gJ g.base) ds d.2.2.1)
  (nd:ps.Nodup) (np:ps.length=d.2.1) (nl:gU f+d.2.2.1.length<=d.2.1) (ns:d.2.1<=d.2.2.2.1/\d.2.2.2.1<=999999) (io:d.2.2.2.2=gU f)
  (hk:fd.scope.kind= .function) (Mo:fd.scope.isCoroutine=false) (A5:fd.scope.isGenerator=false) (hb:fd.body= .stmts body)
  (v:∀x i,dY.lookup x=some i->slots.lookup i=some x)
  (s:∀i x,slots.lookup i=some x->dY.lookup x=some i/\x≠⟨#[]⟩/\i≠999999/\(fd.scope.names.lookup x=some .local/\(x,NameKind.cell)∉fd.scope.names\/fd.scope.names.lookup x=some .cell))
  (p:∀i x,ps[i]? =some x->slots.lookup i=some x) (nf:∀x,fd.scope.names.lookup x≠some .free)
  (sl:∀(call:Nat->List SV->aD (SV×List SV)) (n:Nat) (co:fP g cB call n gU),SL ⟨g,cB,G,call,n,gU,co,fd.scope,dY,λi=>(slots.lookup i).isSome || i==999999,gU f⟩ d.1 body)
noncomputable def XT:Flow->Value |.ret v=>v |_ =>.none
def BK{P:aD (SV×List SV)->Prop}(B:P .aA)(h:∀d,G.fns f=some d->args.length<=d.2.1->d.2.1<=args.length+d.2.2.1.length->∀dd en,dd=d.2.2.1.drop (args.length+d.2.2.1.length-d.2.1)->en=jx d.2.2.2.1 (args++dd.map SV.h)->P ((aG G (aa G n) d.1 en).i λb=>.oK (wX b.1,jq d.2.2.2.2 b.2))):P (aa G (n+1) f args):=by
 show P ((aD.d (G.fns f)).i _)
 induction hf:G.fns f using aF with
 |none=>exact B
 |some d=>
  by_cases A:args.length<=d.2.1/\d.2.1<=args.length+d.2.2.1.length
  ·exact(congrArg P (if_pos A)).mpr (h d hf A.1 A.2 _ _ rfl rfl)
  ·exact(congrArg P (if_neg A)).mpr B
def vq{dd:List AV}(h:(jx m (args++dd.map SV.h))[i]? =some sv)(B:sv≠.a):args[i]? =some sv\/args.length<=i/\∃a,dd[i-args.length]? =some a/\sv= .h a:=by
 unfold jx at h;rw[iC]at h;rcases Nat.lt_or_ge i args.length with c |c
 ·rw[lI c]at h;exact .inl h
 ·rw[pw c]at h;refine .inr ⟨c,?_⟩;rcases Nat.lt_or_ge (i-args.length) (dd.map SV.h).length with q |q
  ·rw[lI q]at h;obtain⟨a,A,C⟩:=di.symm.trans h |> Option.map_eq_some_iff.mp
   exact⟨a,A,C.symm⟩
  ·rw[pw q]at h;exact absurd (List.eq_of_mem_replicate (fk h)) B
def vr{m i:Nat}(h:(jx m (args++r))[i]? =none\/(jx m (args++r))[i]? =some SV.a):args[i]? =none\/args[i]? =some SV.a:=by
 rcases Nat.lt_or_ge i args.length with c |c
 ·unfold jx at h;rw[iC,lI c]at h;exact h
 ·exact .inl (List.getElem?_eq_none c)
def yc(h:l.length<=k)(A:m<=k):(jx m l).length<=k:=by
 unfold jx;rw[dc,uR];exact(Nat.le_total l.length m).elim (λq=>zE A (Nat.add_sub_cancel' q)) λq=>zE h (congrArg (l.length+ ·) (Nat.sub_eq_zero_of_le q))
def H7{fd:FuncData}(C:L=N)(ig:mM 0 (n+1) A l O)(B:fd.scope.kind= .function)
 (E:∀x i,dY.lookup x=some i->slots.lookup i=some x)
 (hs:∀i x,slots.lookup i=some x->dY.lookup x=some i/\x≠⟨#[]⟩/\i≠999999/\(fd.scope.names.lookup x=some .local/\(x,NameKind.cell)∉fd.scope.names\/fd.scope.names.lookup x=some .cell)) (F:∀x,fd.scope.names.lookup x≠some .free)
 (he:ah=newEnv fd.scope N mainGlobals (cellsFrom (N+1) fd.scope.names []) (fd.qualname++".<locals>.") (some (g.iH f)) fd.code Option.none builtinsNs):
 hJ ⟨g,H,G,aa G n,n,D,co,fd.scope,dY,λi=>(slots.lookup i).isSome || i==999999,D f⟩ slots ah (A.deeper ah) l O L:=by
 subst he C;exact⟨B,rfl,rfl,rfl,rfl,rfl,λm=>⟨Around.frames_deeper ig.frames,⟨λz=>(nomatch B.symm.trans z),rfl,ig.a⟩,ig.r,ig.guards,UY (ig.depth),UW (ig.units)⟩,rfl,E,λi y h=>(hs i y h).imp id (And.imp id (And.imp id (Or.imp (λq=>⟨q.1,wo q.2 rfl⟩) λq=>⟨q,o_ (bD q)⟩))),F⟩
section
variable {g:Gd}{cB:Addr}{G:jn}{gU:Nat->Nat}{n f:Nat}{d:List IS×Nat×List AV×Nat×Nat}{A:Around}{l:List Env}{O:ie}{X:dJ}{s:Shared}{vals:List Value}{args en:List SV}{dd:List AV}{os:aJ}
def Entry(S:cZ)(B:List (Nat×Str))(f:Nat)(A:Around)(l:List Env)(O:ie)(X:dJ)(s:Shared)(vals:List Value)(en:List SV)(os:aJ)(body:List Stmt):Prop:=
 ∀(R:Result->Shared->Prop),(∀(L:Addr) (C:Env) (e:hJ S B C (A.deeper C) l O L) (D:Shared),bo (e.run X) os en D->(∀a,(e.run X).pl a->s.heap.get? a=none)->(∀i v,vals[i]? =some v->(e.run X).hold D.heap i v)->s.heap.StaysIn D.heap->fb s D->
  wpAny (model S.g.prog S.g.w) (A.deeper C) (execs body C) (λH F=>R (.ok (.ret (XT H))) F) (λe F=>wpAny (model S.g.prog S.g.w) (A.deeper C) (leaving C e) (λz E=>R (.error e) E) (λI E=>R (.error I) E) F) D)->
  codeAny (model S.g.prog S.g.w) A (.call (.ref (S.g.iH f)) ⟨vals,[]⟩) R s
inductive RA(g:Gd)(cB:Addr)(G:jn)(gU:Nat->Nat)(n f:Nat)(co:fP g cB (aa G n) n gU)(d:List IS×Nat×List AV×Nat×Nat)(A:Around)(l:List Env)(O:ie)(X:dJ)(s:Shared)(vals:List Value)(en:List SV)(os:aJ):Prop
 |mk {sc:Scope} {dY:List (Str×Nat)} {slots:List (Nat×Str)} {body:List Stmt} (h:Entry ⟨g,cB,G,aa G n,n,gU,co,sc,dY,λi=>(slots.lookup i).isSome || i==999999,gU f⟩ slots f A l O X s vals en os body) (sl:SL ⟨g,cB,G,aa G n,n,gU,co,sc,dY,λi=>(slots.lookup i).isSome || i==999999,gU f⟩ d.1 body) (lo:gU f<=vals.length) (io:d.2.2.2.2=gU f)
def Bo(x:Jz g cB G gU f d)(co)(ig:mM 0 (n+1) A l O)(C:cU g O X cA (At vals) os args s.heap)(B:vals.length=args.length)(tm:os tI=[])(w:args.length<=d.2.1)(F:d.2.1<=args.length+d.2.2.1.length)(Y:dd=d.2.2.1.drop (args.length+d.2.2.1.length-d.2.1))(L:en=jx d.2.2.2.1 (args++dd.map SV.h)):RA g cB G gU n f co d A l O X s vals en os:=by
 obtain⟨o,fd,W,Q,dY,P,S,c,hd,cr,gl,bl,cl,pb,N,m,D,nl,M,io,U,Mo,A5,hb,p,V,u,nf,sl⟩:=x
 have Z:args.length+dd.length=d.2.1:=by rw[Y,List.length_drop];exact UU w F
 have j:vals.length<=W.length:=B▸D▸w;refine .mk (λR h=>?_) (sl (aa G n) n co) (B▸UK nl F) io;have E:g.base.StaysIn s.heap:=λa o h=>(C.base a o h).2.2;refine codeAny_call_function (UZ ig.depth) (E _ _ c) hd Mo A5 hb (cr.keeps E) (pb vals j (D▸B▸N.E▸F) _ _ _ _ E ?_);rw[gl,cl,bl];refine wpAny_newFunctionEnv_cells U (λx hx=>?_) λb y s1 x=>⟨g.d7.keeps λa o h=>x.toInCall.keep a o (E a o h),codeAny_func ?_⟩
 ·obtain⟨i,hi⟩:=List.getElem?_of_mem (List.of_mem_zip (show(x.1,x.2)∈_ from hx)).1;exact(V i _ (u i _ hi)).2.2.2.imp (·.1) λq=>⟨q,eK (o_ (n:=s.heap.objs.size+1) (acc:=[]) (bD q)) λa e=>by rw[e];rfl⟩
 have e:=H7 (co:=co) (congrArg Env.locals y:b.locals=_) ig U p V nf y
 have Vx:cm g (gJ g.base) (Q.drop (vals.length+Q.length-W.length)) dd:=by rw[Y,B,N.E,D];exact N.drop _
 obtain⟨I,n1,h1⟩:=e.inv C tm B x m u (λi v h=>by rw[lI (aS h)];exact h) j (λi sv h hu=>(vq (L▸h) hu).imp id<|And.elim λH=>kE λa=>And.elim λz q3=>by
  obtain⟨v,e2,r⟩:=Vx.get z
  exact⟨D▸Z▸(Nat.sub_lt_iff_lt_add' H).mp (aS z),B▸H,v,a,(pw (B▸H)).trans ((congrArg (λk=>(Q.drop _)[i-k]?) B).trans e2),q3,r⟩) (λi h=>vr (L▸h)) (L▸yc (by rw[dc,cz,Z];exact az M.1 (az M.2 (by decide))) (az M.2 (by decide)))
 obtain⟨h',t,se,k⟩:=x.done;exact h _ _ e s1 I n1 h1 x.toInCall.keep (by rw[se];exact⟨rfl,rfl⟩)
def HV(C:Entry S slots f A l O X s vals en os body)(F:SL S U body)(V:S.lo<=vals.length)(Z:k=S.lo):
 E7 S.g A (.call (.ref (S.g.iH f)) ⟨vals,[]⟩) s ((aG S.G S.call U en).i λb=>.oK (wX b.1,jq k b.2)) (λb v s'=>b.2.length=S.lo/\∃os',QC S.g O X vals os s b v s' os') (XP O l S.cB (Wr O cA os) s):=by
 subst Z
 induction hr:aG S.G S.call U en using Mine.bf with
 |aA=>trivial
 |bG=>
  refine C _ λL Q e R I E D M N=>?_
  exact wpAny_mono (hr▸F (e.run X) e.bk I) (λK K q=>q.elim) λx s' q=>XE.leave e.bk rfl q λr p=>by obtain⟨a,j,m,z,W,c⟩:=p;exact⟨a,j,m,λB H=>z B λb o q=>(⟨M b o (H b o q).1,λw=>w.elim (λw=>(H b o q).2 (.inl w)) λw=>w.elim (λw=>bw (E b w) (H b o q).1) λw=>(H b o q).2 (.inr (.inr w))⟩),W,N.trans c⟩
 |oK b=>
  refine C _ λL Q e R I E D M N=>?_;refine wpAny_mono (show J (e.run X) os R (execs body Q) (.oK b) (PS (e.run X))from hr▸F (e.run X) e.bk I) (λh s'=>JP.a λos' Y=>And.elim λu P=>⟨jT,e.leave E D M N Y u V ?_⟩) λK K q=>q.elim
  induction hb:b.1 using Mine.Fl.casesOn with
  |C i=>obtain⟨v,rfl,y⟩:=hb▸P;exact y
  |a=>obtain⟨rfl,t⟩:=hb▸P;exact t▸.f (.v (show aZ S.g .none .r from .r))
  |cont=>obtain⟨rfl,t⟩:=hb▸P;exact t▸.f (.v (show aZ S.g .none .r from .r))
def wu(co:fP g cB (aa G n) n gU)(R:∀f d,G.fns f=some d->Jz g cB G gU f d):fP g cB (aa G (n+1)) (n+1) gU:=λig C D Q=>
 BK (P:=λr=>E7 g _ _ _ r _ _) trivial λd F I L dd en M N=>by
  obtain⟨B,E,H,S⟩:=Bo (R _ d F) co ig C D Q I L M N;exact HV B E H S
theorem uC(B:∀f d,G.fns f=some d->Jz g cB G gU f d):∀n,fP g cB (aa G n) n gU
 |0=>λz z z z=>trivial
 |n+1=>wu (uC B n) B
end
end Mine
namespace Mine
open PySem PySem.W PyProof.Rows PySem.Calls Builtin Builtin.ObjectAttr
def Er{K:Frag}{os:OsState}(X:K.In h)(D:h.get? e=some B)(L:B.cls= .ref C){vs:Array Value}(O:B.data= .fields vs)(M:B.dict=none)(N:clsIn K C=some cd)(q:cd.hasDict=true)
 (hs:findIn K (.ref C) "__setattr__" =some (some (.builtin "object.__setattr__"))) (l:takerIn K C nm=some none) (f:refuseLoop (.ref e) "__setattr__" cd.mro=pure ()) (Z:cd.mro.contains (.type "object")=true) (V:cd.mro.isEmpty=false) {Q:Unit->Shared->Prop}
 (m:∀h' i dd,(∀b o,b≠e->h.get? b=some o->h'.get? b=some o)->h'.get? e=some {B with dict:=some dd}->Q () ⟨h',g,d,i,os⟩):wpAny (model prog w) A (setAttr (.ref e) nm v) Q E ⟨h,g,d,t,os⟩:=by
 have SF:=PySem.F.store_object;have I:InstAt h e B C none:=⟨D,L,by unfold notCls;rw[O],by rw[M];trivial⟩;refine set_plain (s:=⟨h,g,d,t,os⟩) X I hs ?_;refine codeAny_call_builtin SF.slot.plain SF.entry (@check_slot (model prog w) _ _ ⟨h,g,d,t+1,os⟩ "object.__setattr__" "object" "__setattr__" (.ref e) [.str nm t,v] [] _ SF.kind SF.split (I.type.andThen (looks_mroIn X (by unfold mroIn;rw[N,Option.bind_some,if_neg (by rw[V];decide),Z])):Looks (model prog w) h (isInstance (.ref e) (.type "object")) true) (SF.args (.ref e) (.str nm t) v) ?_);refine dg l λP c j=>?_
 have u:Looks (model prog w) h (storeTaker? P) none:=by
  induction P using aF with
  |none=>exact .now
  |some a=>
   refine pK j λb G y=>?_
   refine(looks_takesIn X G).andThen ?_
   induction b using aR
   ·exact .now
   ·cases y
 rw[osa_eq,refuse_eq];refine wpAny_bind (wpAny_bind (Looks.here (s:=⟨h,g,d,t+1,os⟩) I.type (wpAny_bind (Looks.here (s:=⟨h,g,d,t+1,os⟩) ((looks_clsIn X N).andThen .now:Looks (model prog w) h (mroOf (.ref C)) cd.mro) ?_))));rw[f];refine wpAny_pure (wpAny_bind (Looks.here (s:=⟨h,g,d,t+1,os⟩) I.type (wpAny_bind (Looks.here (s:=⟨h,g,d,t+1,os⟩) (looks_findIn X c) (wpAny_bind (Looks.here (s:=⟨h,g,d,t+1,os⟩) u ?_))))));obtain⟨n,od,x,Y⟩:=B
 dsimp only at L O M
 refine bB λk H=>?_;subst L O M;refine H (wpAny_bind (wpAny_pure (wpAny_bind (wpAny_bind (wpAny_loadPart D (wpAny_bind (Looks.here (s:=⟨h,g,d,t+1,os⟩) (looks_clsIn X N) ?_)))))));rw[q];have S:e≠h.objs.size:=Nat.ne_of_lt (Heap.lt_size D);have R:(h.push {cls:=.type "dict",data:=.dict #[]}).get? e=some ⟨.ref C,none,.fields vs,Y⟩:=Heap.get?_push_of_some _ D;refine wpAny_bind (wpAny_alloc' (wpAny_bind (wpAny_update' R ?_)));refine wpAny_pure (a:=some h.objs.size) ?_;show wpAny _ _ (storeInDict h.objs.size (.str nm t) nm v) _ _ _;unfold storeInDict newKeyGuard;refine wpAny_bind (wpAny_pure (wpAny_bind (wpAny_nsSet1 (Heap.Ns1.of_empty (⟨_,#[],_,((Heap.get?_update_ne _ _ _ _ S.symm).trans (Heap.get?_push_at rfl rfl):((h.push {cls:=.type "dict",data:=.dict #[]}).update e λo=>{o with dict:=some h.objs.size}).get? h.objs.size=some {cls:=.type "dict",data:=.dict #[]}),rfl,λe D=>absurd D (by simp),λJ=>rfl⟩:((h.push {cls:=.type "dict",data:=.dict #[]}).update e λo=>{o with dict:=some h.objs.size}).Ns h.objs.size (λJ=>none))) λh' p hs=>?_)));refine bB λk H=>?_;obtain⟨oD,YF,YG,r,z,W⟩:=p.count (Within.cons nm v Within.nil);refine H (wpAny_bind (wpAny_lookBehind r (by rw[z];exact pastItsLine_dict (az W (by rw[List.length_cons,List.length_nil,sizeLine_eq];decide))) ?_));exact wpAny_pure (m h' _ h.objs.size (λb o U G=>((hs.2 b (Nat.ne_of_lt (Heap.lt_size G))).trans ((Heap.get?_update_ne _ _ _ _ U).trans (Heap.get?_push_of_some _ G)))) ((hs.2 e S).trans (Heap.get?_update_self _ R rfl)))
section
variable {prog:Program}{w:World}{A:Around}{E:Value->Shared->Prop}{h:Heap}{g:Array GenState}{d:Drawn}{t:Nat}{os:OsState}
variable {nm q:Str}{C N:Addr}{bs bm F6:List Value}{hdct:Bool}{sn:List Str}{sub:List Value}{ab:Bool}{col:Option Bool}{dd:Option Addr}{k0 k1 k2 k3 k5:Option Value}{B newId vF:String}
structure uU(B:String)(bm:List Value):Prop where
 b:bm.contains (.type B)=true
 a:bm.contains (.type "AttributeError")=false
 n:bm.contains (.type "NameError")=false
 e:bm.contains (.type "BaseException")=true
def G6(F:ExcBaseFacts B newId vF F6)(T:uU B bm)(D:h.get? C=some (excClassObj nm q C N bs bm hdct sn sub ab col dd k0 k1 k2 k3 k5 newId))
 (L:R (.ok (.ret (.ref (h.objs.size+1)))) ⟨(h.push {cls:=.type "tuple",data:=.seq rest.toArray}).push {cls:=.ref C,data:=.fields #[.ref h.objs.size,.none,.none,.none,.bool false,.none]},g,d,t,os⟩) (O:rest.length<=sizeLine):
 codeAny (model prog w) A (.builtin newId ⟨.ref C::rest,[]⟩) R ⟨h,g,d,t,os⟩:=by
 have M:=F.ends
 have I:(Value.ref C::bm).contains (.type "AttributeError")=false:=by rw[List.contains_cons,T.a];rfl
 have H:(Value.ref C::bm).contains (.type "NameError")=false:=by rw[List.contains_cons,T.n];rfl
 refine codeAny_builtinAt F.entry ?_;unfold Builtin.«BaseException.__new__»;refine PySem.wpAt_bind ?_;show PySem.wpAt _ _ _ (stack>>=_) _ _ _;refine PySem.wpAt_bind (PySem.wpAt_stack λp G=>PySem.wpAt_of_wpAny ?_)
 wp_walk
 refine PySem.wpAt_of_wpAny ?_;rw[F.owner]
 repeat (first |with_reducible refine wpAny_madeHere_exc F.canon D ?_ |with_reducible refine wpAny_loadPart_at D ?_ |(with_reducible refine wpAny_isSubtype_exc D ?_;first |rw[(by rw[List.contains_cons,T.b,Bool.or_true]:(Value.ref C::bm).contains (.type B)=true)]|rw[I]|rw[H])|wp_step)
 show R _ _;rw[Heap.size_push];exact L
def Dp{K:Frag}(X:K.In h)(F:ExcBaseFacts B newId vF F6)(T:uU B bm)
 (D:h.get? C=some (excClassObj nm q C N bs bm hdct sn sub ab col dd k0 k1 k2 k3 k5 newId)) (S:findIn K (.ref C) "__init__" =some (some (.ref fI))) (hf:typeIn K (.ref fI)=some (.type "function")) (U:peek K ⟨prog,w.params⟩ (checkBuiltinCall newId ⟨.ref C::rest,[]⟩)=some ())
 (P:peek K ⟨prog,w.params⟩ (callAny (.ref C) ⟨rest,[]⟩)=some (.again (.call (.builtin "type.__call__") ⟨.ref C::rest,[]⟩))) (O:peek K ⟨prog,w.params⟩ (checkBuiltinCall "type.__call__" ⟨.ref C::rest,[]⟩)=some ())
 (V:wpAny (model prog w) (A.under (.builtin "type.__call__" ⟨.ref C::rest,[]⟩)) (call (.ref fI) (.ref (h.objs.size+1)::rest)) (λr s'=>r= .none/\Q (.ref (h.objs.size+1)) s') E
  ⟨(h.push {cls:=.type "tuple",data:=.seq rest.toArray}).push {cls:=.ref C,data:=.fields #[.ref h.objs.size,.none,.none,.none,.bool false,.none]},g,d,t,os⟩) (L:rest.length<=sizeLine):
 wpAny (model prog w) A (call (.ref C) rest) Q E ⟨h,g,d,t,os⟩:=by
 refine wpAny_call (codeAny_of_tree ?_);refine Looks.of_peek (t:=callAny (.ref C) ⟨rest,[]⟩) X P _ _ _ _ (λz z e=>e) ?_;refine⟨rfl,?_⟩;refine codeAny_call_builtin_at (Code.quiet_builtin _ (by decide+kernel)) entry_typeCall (Looks.of_peek X O _ _ _ ⟨h,g,d,t,os⟩ (λz z e=>e) ?_)
 repeat (first |with_reducible refine wpAny_loadPart_at D ?_ |with_reducible refine wpAny_madeBy_exc D ?_ |wp_step)
 refine codeAny_call_builtin_code (Code.quiet_builtin _ F.quiet) (Looks.of_peek X U _ _ _ _ (λz z e=>e) ?_);refine G6 F T D ?_ L;show wpAny _ _ _ _ _ _;have G:h.StaysIn ((h.push {cls:=.type "tuple",data:=.seq rest.toArray}).push {cls:=.ref C,data:=.fields #[.ref h.objs.size,.none,.none,.none,.bool false,.none]}):=λb o e=>Heap.get?_push_of_some _ (Heap.get?_push_of_some _ e);have R:=G _ _ D;have I:=X.keeps G
 have H:((h.push {cls:=.type "tuple",data:=.seq rest.toArray}).push {cls:=.ref C,data:=.fields #[.ref h.objs.size,.none,.none,.none,.bool false,.none]}).get? (h.objs.size+1)=some {cls:=.ref C,data:=.fields #[.ref h.objs.size,.none,.none,.none,.bool false,.none]}:=by heap_get
 unfold isInstance
 repeat (first |with_reducible refine wpAny_loadPart_at H ?_ |wp_step)
 refine wpAny_isSubtype_exc R ?_;rw[(by simp:(Value.ref C::bm).contains (.ref C)=true)]
 repeat (first |with_reducible refine wpAny_loadPart_at H ?_ |wp_step)
 show wpAny _ _ (typeLookup (.ref C) _) _ _ _;refine Looks.here (s:=⟨_,g,d,t,os⟩) (looks_findIn I S) ?_;refine wpAny_holding (wpAny_bind ?_);unfold bindSpecial;refine wpAny_bind (Looks.here (s:=⟨_,g,d,t,os⟩) (looks_typeIn I hf) ?_);rw[if_pos (by decide)];refine wpAny_pure (wpAny_bind (wpAny_mono V (λr s' W=>?_) λz z x=>x));obtain⟨rfl,M⟩:=W
 wp_walk
 exact M
end
section
variable {prog:Program}{w:World}{A:Around}{E:Value->Shared->Prop}{h:Heap}{g:Array GenState}{d:Drawn}{t:Nat}{os:OsState}
variable {nm q:Str}{C N:Addr}{bs bm F6:List Value}{hdct:Bool}{sn:List Str}{sub:List Value}{ab:Bool}{col:Option Bool}{dd:Option Addr}{k0 k1 k2 k3 k5:Option Value}{B newId vF:String}
def Dn(F:ExcBaseFacts "ValueError" newId "ValueError.__init__" F6)(T:uU "ValueError" bm)(D:h.get? C=some (excClassObj nm q C N bs bm hdct sn sub ab col dd k0 k1 k2 k3 k5 newId))
 (he:h.get? e=some ⟨.ref C,none,.fields #[.ref a0,.none,.none,.none,.bool false,.none],#[]⟩)
 (L:∀h',(∀b o,b≠e->h.get? b=some o->h'.get? b=some o)->h'.get? e=some ⟨.ref C,none,.fields #[.ref h.objs.size,.none,.none,.none,.bool false,.none],#[]⟩->Q .none ⟨h',g,d,t,os⟩):
 wpAny (model prog w) A (call (.builtin "ValueError.__init__") [.ref e,v]) Q E ⟨h,g,d,t,os⟩:=by
 have M:=F.noStar;refine wpAny_call (codeAny_call_builtin F.init.plain F.initEntry ?_);unfold checkBuiltinCall;rw[F.initKind];dsimp only;rw[F.initSplit];dsimp only;rw[F.initRow];dsimp only
 repeat (first |with_reducible refine wpAny_loadPart_at he ?_ |with_reducible refine wpAny_loadPart_at D ?_ |(with_reducible refine wpAny_isSubtype_exc D ?_;rw[(by rw[List.contains_cons,T.b,Bool.or_true]:(Value.ref C::bm).contains (.type "ValueError")=true)])|wp_step)
 have I:(h.push {cls:=.type "tuple",data:=.seq #[v]}).get? e=some ⟨.ref C,none,.fields #[.ref a0,.none,.none,.none,.bool false,.none],#[]⟩:=Heap.get?_push_of_some _ he;exact L _ (λb o G H=>(Heap.get?_update_of_ne _ (Ne.symm G) (Heap.get?_push_of_some _ H))) (Heap.get?_update_self _ I rfl)
end
inductive r9(K:Frag)(fI:Addr):Prop
 |mk (o:Obj) (fd:FuncData) (ap p1 p2 p3 p4 p5 p6 p7 p8 p9:Pos)
  (ho:K.lookup fI=some o) (hd:o.data= .func fd) (cr:codeIn K fd.code fd.qualname=true) (gl:fd.globals=mainGlobals) (bl:fd.builtins=builtinsNs) (cl:fd.closure=[])
  (pb:∀(S:Setting) (a b:Value),peek K S (bindArgs fd ⟨[a,b],[]⟩)=some [(("self" :Str),a),(("reason" :Str),b)])
  (hk:fd.scope.kind= .function) (Mo:fd.scope.isCoroutine=false) (A5:fd.scope.isGenerator=false)
  (hb:fd.body= .stmts [.Expr (.Call (.Attribute (.Name "ValueError" p1) "__init__" ap) [.Name "self" p2,.Name "reason" p3] [] p4) p5,.Assign [.Attribute (.Name "self" p6) "reason" p7] (.Name "reason" p8) p9]) (hl:(ap.endLine==p4.line)=true)
  (n1:fd.scope.names.lookup ("self" :Str)=some NameKind.local) (n2:fd.scope.names.lookup ("reason" :Str)=some NameKind.local) (n3:fd.scope.names.lookup ("ValueError" :Str)=some NameKind.globalImplicit) (nc:∀x∈fd.scope.names,x.2≠.cell)
section
variable {prog:Program}{w:World}{A:Around}{E:Value->Shared->Prop}{h:Heap}{g:Array GenState}{d:Drawn}{t:Nat}{os:OsState}
variable {nm q:Str}{C N:Addr}{bs bm F6:List Value}{hdct:Bool}{sn:List Str}{sub:List Value}{ab:Bool}{col:Option Bool}{dd:Option Addr}{k0 k1 k2 k3 k5:Option Value}{newId:String}{K:Frag}
def K0(X:K.In h)(I:r9 K fI)(F:ExcBaseFacts "ValueError" newId "ValueError.__init__" F6)(T:uU "ValueError" bm)(Z:K.lookup C=some (excClassObj nm q C N bs bm true sn sub ab col dd k0 k1 k2 k3 k5 newId))
 (hs:findIn K (.ref C) "__setattr__" =some (some (.builtin "object.__setattr__"))) (ht:takerIn K C "reason" =some none) (hr:∀e,refuseLoop (.ref e) "__setattr__" (.ref C::bm)=pure ()) (ho:(Value.ref C::bm).contains (.type "object")=true)
 (hv:nsIn K mainGlobals "ValueError" =some none) (c:h.Ns mainGlobals mg) (Mg:h.Ns builtinsNs mb) (Eg:∀x:Str,x≠"__name__"->mb x=bootBuiltins x) (nl:h.NoLimit) (room:A.depth<recursionLimit) (XD:K.lookup e=none)
 (he:h.get? e=some ⟨.ref C,none,.fields #[.ref a0,.none,.none,.none,.bool false,.none],#[]⟩)
 (hq:∀h' t' s k,(∀b o,b≠e->h.get? b=some o->h'.get? b=some o)->h'.get? e=some ⟨.ref C,some k,.fields #[.ref s,.none,.none,.none,.bool false,.none],#[]⟩->Q .none ⟨h',g,d,t',os⟩):
 wpAny (model prog w) A (call (.ref fI) [.ref e,v]) Q E ⟨h,g,d,t,os⟩:=by
 obtain⟨o,fd,ap,p1,p2,p3,p4,p5,p6,p7,p8,p9,hf,hd,cr,gl,bl,cl,pb,O,Mo,A5,G,R,Y,V,n3,nc⟩:=I;refine wpAny_call (codeAny_call_function room (X _ _ hf) hd Mo A5 G (codeRec_of X cr) ?_);refine Looks.of_peek X (pb _ _ _) _ _ _ _ (λJ J e=>e) ?_;rw[gl,cl,bl];refine wpAny_newFunctionEnv nc (λx hx=>?_) (λU H y=>⟨nl.fresh _ y,codeAny_func ?_⟩) O
 ·rcases iZ.mp (show x∈[(("self" :Str),Value.ref e),(("reason" :Str),v)]from hx)with rfl |hx
  ·exact Y
  ·cases dN.mp hx;exact V
 have B:∀{b o},h.get? b=some o->U.get? b=some o:=λ{b o} G=>(y.2 b (Nat.ne_of_lt (Heap.lt_size G))).trans (Heap.get?_push_of_some _ G);have W:K.In U:=X.keeps λJ J=>B
 have i:(λx=>([(("self" :Str),Value.ref e),(("reason" :Str),v)]:List (Str×Value)).reverse.lookup x) "self" =some (.ref e):=by kernel_rfl
 have r:(λx=>([(("self" :Str),Value.ref e),(("reason" :Str),v)]:List (Str×Value)).reverse.lookup x) "reason" =some v:=by kernel_rfl
 have M:∀{D:Heap} {j:Nat} {A2:Around} {E2:Value->Shared->Prop} {x:Str} {u:Value} {p:Pos} {f:Value->Shared->Prop} {S:Env},S.scope=fd.scope->S.locals=h.objs.size->D.Ns h.objs.size (λx=>([(("self" :Str),Value.ref e),(("reason" :Str),v)]:List (Str×Value)).reverse.lookup x)->fd.scope.names.lookup x=some .local->(λx=>([(("self" :Str),Value.ref e),(("reason" :Str),v)]:List (Str×Value)).reverse.lookup x) x=some u->(x==("__debug__" :Str))=false->f u ⟨D,g,d,j,os⟩->wpAny (model prog w) A2 (eval (.Name x p) S) f E2 ⟨D,g,d,j,os⟩:=
  λhs R n Jq y4 xh Mc=>wpAny_Name (wpAny_loadName_local (by rw[hs];exact O) (by unfold Env.kindOf;rw[hs];exact Jq) (by rw[R];exact n) y4 Mc) xh
 refine wpAny_execs_cons (wpAny_Expr_any ?_ (by unfold interactive;rw[show(newEnv fd.scope h.objs.size mainGlobals [] (fd.qualname++".<locals>.") (some fI) fd.code none builtinsNs).scope.kind= .function from O];rfl) rfl);rw[mm (xs:=[.Name "self" p2,.Name "reason" p3]) rfl rfl (show 2<29 by decide)];refine wpAny_bind (Name_function_global O n3 (loadGlobal_builtin (mg:=mg) (mb:=mb) (c.keeps λJ J=>B) (mg_none_of W (c.keeps λJ J=>B) hv) (Mg.keeps λJ J=>B) ((Eg "ValueError" (by decide+kernel)).trans (show bootBuiltins "ValueError" =some (.type "ValueError")by kernel_rfl)) ?_) (by decide+kernel));refine wpAny_bind (wpAny_standAt (wpAny_bind (wpAny_holding ?_)));refine method_type (h₀:={}) (L:=h.objs.size) (K:=[]) (T:="ValueError") (v:=.builtin "ValueError.__init__") ⟨H,λJ J e=>(by cases e),da _⟩ (λJ J e=>nomatch e) (by kernel_rfl) (by kernel_rfl) (by kernel_rfl) (by kernel_rfl) ?_;refine wpAny_bind (u7 R ?_);refine callWith_builtin rfl (evalArgs_plain (spliced_cons (M rfl rfl H Y i (by decide+kernel) (spliced_cons (M rfl rfl H V r (by decide+kernel) (spliced_nil ?_))))));refine Dn F T (W _ _ Z:U.get? C=some (excClassObj nm q C N bs bm true sn sub ab col dd k0 k1 k2 k3 k5 newId)) (B he) λD P e2=>?_;have m:=H.at' (h':=D) λo=>P _ o (Ne.symm (Nat.ne_of_lt (Heap.lt_size he)));refine wpAny_execs_cons ?_;rw[plainObj_exec_Assign_Attribute _ _ _ _ _ rfl];refine wpAny_bind (wpAny_standAt (wpAny_bind (M rfl rfl m V r (by decide+kernel) ?_)));rw[assign_Attribute];exact wpAny_bind (wpAny_bind (wpAny_holding (M rfl rfl m Y i (by decide+kernel) (wpAny_bind (wpAny_standAt (wpAny_bind (wpAny_holding (Er (λa o q=>P a o (λz=>bw XD (z▸q)) (W a o q):K.In D) e2 rfl rfl rfl (cd:={name:=nm,bases:=bs,mro:=.ref C::bm,ns:=N,qualname:=q,hasDict:=true,slotNames:=sn,subclasses:=sub,abstract:=ab,collection:=col,hasDel:=false}) (by unfold clsIn;rw[Z]) rfl hs ht (hr e) ho rfl λh3 t3 k WM e3=>wpAny_release' (wpAny_pure (wpAny_execs_nil (hq _ _ _ _ (λb o l G=>WM b o l (P b o l (B G))) e3)))))))))))
end
def BS{sub:List Value}(G:g.K.lookup B=some (excClassObj nm q B N bs bm true sn sub ab col dd k0 k1 k2 k3 k5 "ValueError.__new__"))(T:uU "ValueError" bm)(L:keepIn g.K (.ref B)=true)
 (j:findIn g.K (.ref B) "__init__" =some (some (.ref fI))) (hf:typeIn g.K (.ref fI)=some (.type "function")) (I:r9 g.K fI) (hs:findIn g.K (.ref B) "__setattr__" =some (some (.builtin "object.__setattr__"))) (Y:takerIn g.K B "reason" =some none)
 (m:∀e,refuseLoop (.ref e) "__setattr__" (.ref B::bm)=pure ()) (P:(Value.ref B::bm).contains (.type "object")=true) (O:nsIn g.K mainGlobals "ValueError" =some none) (l:∀v,peek g.K ⟨g.prog,g.w.params⟩ (checkBuiltinCall "ValueError.__new__" ⟨[.ref B,v],[]⟩)=some ())
 (Z:∀v,peek g.K ⟨g.prog,g.w.params⟩ (callAny (.ref B) ⟨[v],[]⟩)=some (.again (.call (.builtin "type.__call__") ⟨[.ref B,v],[]⟩))) (V:∀v,peek g.K ⟨g.prog,g.w.params⟩ (checkBuiltinCall "type.__call__" ⟨[.ref B,v],[]⟩)=some ()):pD g B:=by
 refine⟨nm,q,N,bs,bm,true,sn,sub,ab,col,dd,k0,k1,k2,k3,k5,_,T.e,g.fH _ _ G,L,λ{A E s v Q} k D u=>?_⟩;obtain⟨c,U⟩:=g.mg;obtain⟨f,W,R⟩:=g.mb;have X:=g.fH.keeps k;obtain⟨h,i,d,t,r⟩:=s;have C:h.StaysIn ((h.push {cls:=.type "tuple",data:=.seq [v].toArray}).push {cls:=.ref B,data:=.fields #[.ref h.objs.size,.none,.none,.none,.bool false,.none]}):=λb o e=>Heap.get?_push_of_some _ (Heap.get?_push_of_some _ e);refine Dp X PySem.F.excBase_ValueError T (k _ _ (g.fH _ _ G)) j hf (l v) (Z v) (V v) ?_ (show 1<=sizeLine by decide);refine K0 (X.keeps C) I PySem.F.excBase_ValueError T G hs Y m P O ((U.keeps k).keeps C) ((W.keeps k).keeps C) R ((g.d7.keeps k).keeps C) (show A.depth+1<recursionLimit from eV (i0 (by decide) _) D) ?_ (a0:=h.objs.size) (by heap_get) λS p M y k1 H=>⟨rfl,u S p M y _ (λb o q=>k1 b o (Nat.ne_of_lt (Nat.lt_succ_of_lt (Heap.lt_size q))) (C b o q)) (d4 (Nat.le_succ _)) H⟩
 induction z:g.K.lookup (h.objs.size+1)using aF with
 |none=>rfl
 |some o=>exact absurd (X _ _ z) (by rw[d4 (Nat.le_succ _)];exact nofun)
end Mine
namespace Mine
open PySem PySem.W PyProof.Rows PySem.Calls
inductive Ok(P:Prop):Type |yes (h:P)|no
noncomputable def Ok.is{P:Prop}:Ok P->Bool |yes _ =>true |no=>false
def Ok.get(o:Ok P)(h:o.is=true):P:=by
 induction o using Mine.Ok.casesOn with
 |yes p=>exact p
 |no=>exact nomatch h
def Ok.i{P Q:Prop}(o:Ok P)(f:P->Ok Q):Ok Q:=Ok.rec f .no o
def Ok.map{P Q:Prop}(f:P->Q)(o:Ok P):Ok Q:=o.i λh=>.yes (f h)
def Ok.or{P:Prop}(a b:Ok P):Ok P:=Ok.rec .yes b a
noncomputable def d8(P:Prop)[d:Decidable P]{Q:Prop}(f:P->Ok Q):Ok Q:=if h:P then f h else .no
def gF{A B:Type}{R:A->B->Prop}(f:∀a b,Ok (R a b))(as:List A):∀bs,Ok (aT R as bs):=
 List.rec (λbs=>List.rec (.yes .j) (λz z z=>.no) bs) (λa as C bs=>List.rec .no (λb bs z=>(f a b).i λh=>(C bs).map λt=>.u h t) bs) as
def mP{α:Type}{Q:List α->Prop}(l:List α)(k:Ok (Q [])):Ok (Q l):=List.rec (motive:=λl=>Ok (Q l)) k (λz z z=>.no) l
def He{α:Type}{Q:List α->Prop}(l:List α)(k:∀a r,Ok (Q (a::r))):Ok (Q l):=List.rec (motive:=λl=>Ok (Q l)) .no (λa r z=>k a r) l
def iO{A:Type}{Q:List A->Prop}(l:List A)(k:∀a,Ok (Q [a])):Ok (Q l):=He l λa r=>mP (Q:=λr=>Q (a::r)) r (k a)
def Ah{A:Type}{Q:List A->Prop}(l:List A)(k:∀a b,Ok (Q [a,b])):Ok (Q l):=He l λa r=>iO (Q:=λr=>Q (a::r)) r (k a)
def Jh{α:Type}{Q:Option α->Prop}(o:Option α)(k:∀a,Ok (Q (some a))):Ok (Q o):=Option.rec (motive:=λo=>Ok (Q o)) .no k o
def O_{α:Type}{Q:Option α->Prop}(o:Option α)(k:Ok (Q none)):Ok (Q o):=Option.rec (motive:=λo=>Ok (Q o)) k (λz=>.no) o
noncomputable def xK{Q:Expr->Prop}(e:Expr)(k:∀(a:Const) (b:Nat) (c:Pos),Ok (Q (.Constant a b c))):Ok (Q e):=if h:e.ctorIdx=19 then Expr.Constant.elim (motive_1:=λe=>Ok (Q e)) e h k else .no
noncomputable def xN{Q:Expr->Prop}(e:Expr)(k:∀(a:Str) (b:Pos),Ok (Q (.Name a b))):Ok (Q e):=if h:e.ctorIdx=23 then Expr.Name.elim (motive_1:=λe=>Ok (Q e)) e h k else .no
noncomputable def xC{Q:Expr->Prop}(e:Expr)(k:∀(a:Expr) (b:List Expr) (c:List Keyword) (d:Pos),Ok (Q (.Call a b c d))):Ok (Q e):=if h:e.ctorIdx=16 then Expr.Call.elim (motive_1:=λe=>Ok (Q e)) e h k else .no
noncomputable def xA{Q:Expr->Prop}(e:Expr)(k:∀(a:Expr) (b:Str) (c:Pos),Ok (Q (.Attribute a b c))):Ok (Q e):=if h:e.ctorIdx=20 then Expr.Attribute.elim (motive_1:=λe=>Ok (Q e)) e h k else .no
noncomputable def xS{Q:Expr->Prop}(e:Expr)(k:∀(a:Expr) (b:Expr) (c:Pos),Ok (Q (.Subscript a b c))):Ok (Q e):=if h:e.ctorIdx=21 then Expr.Subscript.elim (motive_1:=λe=>Ok (Q e)) e h k else .no
noncomputable def Oe{Q:Expr->Prop}(e:Expr)(k:∀(a:Expr) (b:Operator) (c:Expr) (d:Pos),Ok (Q (.BinOp a b c d))):Ok (Q e):=if h:e.ctorIdx=2 then Expr.BinOp.elim (motive_1:=λe=>Ok (Q e)) e h k else .no
noncomputable def Oc{Q:Expr->Prop}(e:Expr)(k:∀(a:PySem.UnaryOp) (b:Expr) (c:Pos),Ok (Q (.UnaryOp a b c))):Ok (Q e):=if h:e.ctorIdx=3 then Expr.UnaryOp.elim (motive_1:=λe=>Ok (Q e)) e h k else .no
noncomputable def Nv{Q:Expr->Prop}(e:Expr)(k:∀(a:PySem.BoolOp) (b:List Expr) (c:Pos),Ok (Q (.BoolOp a b c))):Ok (Q e):=if h:e.ctorIdx=0 then Expr.BoolOp.elim (motive_1:=λe=>Ok (Q e)) e h k else .no
noncomputable def R_{Q:Expr->Prop}(e:Expr)(k:∀(a:Expr) (b:List CmpOp) (c:List Expr) (d:Pos),Ok (Q (.Compare a b c d))):Ok (Q e):=if h:e.ctorIdx=15 then Expr.Compare.elim (motive_1:=λe=>Ok (Q e)) e h k else .no
noncomputable def R9{Q:Expr->Prop}(e:Expr)(k:∀(a:Expr) (b:Expr) (c:Expr) (d:Pos),Ok (Q (.IfExp a b c d))):Ok (Q e):=if h:e.ctorIdx=5 then Expr.IfExp.elim (motive_1:=λe=>Ok (Q e)) e h k else .no
noncomputable def CI{Q:Expr->Prop}(e:Expr)(k:∀(a:List Expr) (b:Nat) (c:Pos),Ok (Q (.Tuple a b c))):Ok (Q e):=if h:e.ctorIdx=25 then Expr.Tuple.elim (motive_1:=λe=>Ok (Q e)) e h k else .no
noncomputable def Od{Q:Expr->Prop}(e:Expr)(k:∀(a:List Expr) (b:Pos),Ok (Q (.List a b))):Ok (Q e):=if h:e.ctorIdx=24 then Expr.List.elim (motive_1:=λe=>Ok (Q e)) e h k else .no
noncomputable def U3{Q:Expr->Prop}(e:Expr)(k:∀(a:Expr) (b:Pos),Ok (Q (.Starred a b))):Ok (Q e):=if h:e.ctorIdx=22 then Expr.Starred.elim (motive_1:=λe=>Ok (Q e)) e h k else .no
noncomputable def U4{Q:Expr->Prop}(e:Expr)(k:∀(a:Option Expr) (b:Option Expr) (c:Option Expr) (d:Pos),Ok (Q (.Slice a b c d))):Ok (Q e):=if h:e.ctorIdx=26 then Expr.Slice.elim (motive_1:=λe=>Ok (Q e)) e h k else .no
noncomputable def R8{Q:Expr->Prop}(e:Expr)(k:∀(a:Expr) (b:List Comprehension) (c:Scope) (d:Pos),Ok (Q (.ListComp a b c d))):Ok (Q e):=if h:e.ctorIdx=8 then Expr.ListComp.elim (motive_1:=λe=>Ok (Q e)) e h k else .no
noncomputable def CS{Q:Stmt->Prop}(e:Stmt)(k:∀(a:Option Expr) (b:Pos),Ok (Q (.Return a b))):Ok (Q e):=if h:e.ctorIdx=3 then Stmt.Return.elim (motive_2:=λe=>Ok (Q e)) e h k else .no
noncomputable def GF{Q:Stmt->Prop}(e:Stmt)(k:∀(a:List Expr) (b:Expr) (c:Pos),Ok (Q (.Assign a b c))):Ok (Q e):=if h:e.ctorIdx=5 then Stmt.Assign.elim (motive_2:=λe=>Ok (Q e)) e h k else .no
noncomputable def Sh{Q:Stmt->Prop}(e:Stmt)(k:∀(a:Expr) (b:Pos),Ok (Q (.Expr a b))):Ok (Q e):=if h:e.ctorIdx=24 then Stmt.Expr.elim (motive_2:=λe=>Ok (Q e)) e h k else .no
noncomputable def Vb{Q:Stmt->Prop}(e:Stmt)(k:∀(a:Expr) (b:List Stmt) (c:List Stmt) (d:Pos),Ok (Q (.If a b c d))):Ok (Q e):=if h:e.ctorIdx=12 then Stmt.If.elim (motive_2:=λe=>Ok (Q e)) e h k else .no
noncomputable def Oq{Q:Stmt->Prop}(e:Stmt)(k:∀(a:Expr) (b:Expr) (c:List Stmt) (d:List Stmt) (e:Pos),Ok (Q (.For a b c d e))):Ok (Q e):=if h:e.ctorIdx=9 then Stmt.For.elim (motive_2:=λe=>Ok (Q e)) e h k else .no
noncomputable def U'{Q:Stmt->Prop}(e:Stmt)(k:∀(a:Expr) (b:List Stmt) (c:List Stmt) (d:Pos),Ok (Q (.While a b c d))):Ok (Q e):=if h:e.ctorIdx=11 then Stmt.While.elim (motive_2:=λe=>Ok (Q e)) e h k else .no
noncomputable def Va{Q:Stmt->Prop}(e:Stmt)(k:∀(a:Option Expr) (b:Option Expr) (c:Pos),Ok (Q (.Raise a b c))):Ok (Q e):=if h:e.ctorIdx=16 then Stmt.Raise.elim (motive_2:=λe=>Ok (Q e)) e h k else .no
noncomputable def Vc{Q:Stmt->Prop}(e:Stmt)(k:∀(a:Pos),Ok (Q (.Continue a))):Ok (Q e):=if h:e.ctorIdx=27 then Stmt.Continue.elim (motive_2:=λe=>Ok (Q e)) e h k else .no
noncomputable def Oo{Q:Stmt->Prop}(e:Stmt)(k:∀(a:List Stmt) (b:List ExceptHandler) (c:List Stmt) (d:List Stmt) (e:Pos),Ok (Q (.Try a b c d e))):Ok (Q e):=if h:e.ctorIdx=17 then Stmt.Try.elim (motive_2:=λe=>Ok (Q e)) e h k else .no
structure GV(g:Gd)(nm:Str)(v:Value):Prop where
 plain:fA nm=true
 h:nsIn g.K mainGlobals nm=some (some v)\/(nsIn g.K mainGlobals nm=some none/\bootBuiltins nm=some v/\nm≠"__name__")
noncomputable def KU:Str:=⟨#[108,101,110]⟩
noncomputable def KP:Str:=⟨#[115,116,114]⟩
noncomputable def KV:Str:=⟨#[105,110,116]⟩
noncomputable def KQ:Str:=⟨#[114,101,112,114]⟩
noncomputable def OL:Str:=⟨#[97,98,115]⟩
noncomputable def OK:Str:=⟨#[109,105,110]⟩
noncomputable def KS:Str:=⟨#[108,105,115,116]⟩
noncomputable def G4:Str:=⟨#[105,115,105,110,115,116,97,110,99,101]⟩
noncomputable def zO:Str:=⟨#[114,97,110,103,101]⟩
noncomputable def Fo:Str:=⟨#[101,110,117,109,101,114,97,116,101]⟩
noncomputable def J9:Str:=⟨#[122,105,112]⟩
def Iu:List (Str×Value):=[(KU,.builtin "len"),(KP,.type "str"),(KV,.type "int"),(KQ,.builtin "repr"),(OL,.builtin "abs"),(OK,.builtin "min"),(KS,.type "list"),(G4,.builtin "isinstance"),(zO,.type "range"),(Fo,.type "enumerate"),(J9,.type "zip")]
structure Cx(g:Gd)(cB:Addr)(G:jn)where
 NV:Nat->Option Str
 QN:Nat->Option Str
 Qp:Nat->Option Str
 Lr:Nat->Option Str
 PC:Nat->Option Str
 yB:Str
 Ae:Str
 yK:Str
 j:∀f nm,NV f=some nm->GV g nm (.ref (g.iH f))
 keep:∀f,keepIn g.K (.ref (g.iH f))=true
 e:∀c nm,QN c=some nm->GV g nm (.ref (g.cls c))/\Rx g c (G.a c)
 My:∀i nm,Qp i=some nm->∃v a,GV g nm v/\G.M[i]? =some a/\cf g (gJ g.base) v a
 h:∀m nm,Lr m=some nm->∀k f,G.meths m k=some f->∃c,k=c+2/\Meth g c nm f/\keepIn g.K (.ref (g.iH f))=true
 isOk:∀k nm,PC k=some nm->∃tv,GV g nm tv/\uV g k tv
 l:∃d,GV g yB (.ref d)/\iF g d G.c
 Fx:∃d,GV g Ae (.ref d)/\iF g d (xV G.b)
 b:GV g yK (.ref cB)/\pD g cB
 bl:∀p∈Iu,GV g p.1 p.2
 sets:∀c nm,nm∈g.fld c->Sets g c nm
 MA:∀c,(g.fld c).length<=20
section
variable {S:cZ}
def Mx{nm:Str}{v:Value}(h:GV S.g nm v):Ok (dX S nm v):=d8 (S.sc.names.lookup nm=some .globalImplicit) λe=>.yes ⟨e,h.plain,h.h⟩
def lT{Q:Expr->Prop}(e:Expr)(nm:Str)(k:∀p,Ok (Q (.Name nm p))):Ok (Q e):=xN e λn p=>d8 (n=nm) λh=>(k p).map λq=>h▸q
def gE{Q:Expr->Prop}{nm:Str}{v:Value}(h:GV S.g nm v)(e:Expr)(k:∀p,dX S nm v->Ok (Q (.Name nm p))):Ok (Q e):=lT e nm λp=>(Mx h).i (k p)
def HO(h:x.is_async=0):(⟨x.target,x.iter,x.ifs,0⟩:Comprehension)=x:=by
 cases x;cases h;rfl
def Fy{Q:Comprehension->Prop}(x:Comprehension)(k:∀t it A,Ok (Q ⟨t,it,A,0⟩)):Ok (Q x):=d8 (x.is_async=0) λh=>(k x.target x.iter x.ifs).map λq=>HO h▸q
def gI(S:cZ)(x:Nat)(e:Expr):Ok (dn S x e):=xN e λA p=>d8 (fA A=true/\S.dY.lookup A=some x) λh=>.yes ⟨A,p,rfl,h.1,h.2⟩
def kF(S:cZ)(x:Nat)(p:mJ)(e:Expr):Ok (i4 S x p e):=match p with
 |none=>gI S x e
 |some (k,i)=>if B:k=1 then xS e λb y A=>xK (Q:=λy=>i4 S x (some (k,i)) (.Subscript b y A)) y λc n C=>d8 (c= .int i) λh=>(gI S x b).map λq=>.inl ⟨B,b,n,C,A,by rw[h],q⟩
  else xA e λb a p=>d8 (k=k-2+2/\(S.g.fld (k-2))[i]? =some a) λh=>(gI S x b).map λq=>.inr ⟨k-2,b,a,p,h.1,rfl,q,h.2⟩
def QK(S:cZ)(c:Sc)(e:Expr):Ok (SE S (.d c) e):=xK e λk n p=>match c with
 |.r=>d8 (k= .none) λh=>.yes (by rw[h];exact SE.r)
 |.u b=>d8 (k= .bool b) λh=>.yes (by rw[h];exact SE.u)
 |.m b=>d8 (k= .int b) λh=>.yes (by rw[h];exact SE.m)
 |.j b=>d8 (k= .str b) λh=>.yes (by rw[h];exact SE.j)
 |.fn _ =>.no
end
structure Ck(S:cZ)where
 E:∀a e,Ok (SE S a e)
 B:∀a e,Ok (SB S a e)
 R:∀a e,Ok (SR S a e)
section
variable {S:cZ}(X:Cx S.g S.cB S.G)(C:Ck S)
def yG(a:IE)(e:Expr):Ok (SA S a e):=d8 (bV e=true) λh=>(C.E a e).map λq=>⟨q,h⟩
def wm(es:List IE)(xs:List Expr):Ok (aT (SA S) es xs):=gF (yG C) es xs
def Ii(es:List IE)(xs:List Expr):Ok (aT (SE S) es xs):=gF C.E es xs
def N0(p:mJ)(a:IE)(y:Expr):Ok (jP S p a y):=match p with
 |none=>(C.E a y).map .of
 |some _ =>match a with
  |.d (.m i)=>xK y λk n q=>d8 (k= .int i) λh=>.yes (by rw[h];exact .const)
  |.H z none=>(gI S z y).map .name
  |_ =>.no
def RY(o:Expr):Prop:=∀B A w,attributeBase o B A w=w
def Ij(o:Expr):Ok (RY o):=if h:dA o=true then .yes λz z z=>cG h else xC o λf A B p=>He (Q:=λA=>RY (.Call f A B p)) A λa r=>xN (Q:=λf=>RY (.Call f (a::r) B p)) f λz z=>.yes λz z z=>rfl
inductive RX(o:Op)(op:Operator):Prop |mk (f:AV->AV->Option AV) (h:hM op f) (ho:∀(G:jn) a b,hZ G o [a,b]=f a b)
def Q5(o:Op)(A:Operator):Ok (RX o A):=match o with
 |.G=>d8 (A= .Add) λh=>.yes (h▸⟨_,ET,λz z z=>rfl⟩)
 |.sub=>d8 (A= .Sub) λh=>.yes (h▸⟨_,EN,λz z z=>rfl⟩)
 |.a=>d8 (A= .Mult) λh=>.yes (h▸⟨_,ER,λz z z=>rfl⟩)
 |.R=>d8 (A= .Mod) λh=>.yes (h▸⟨_,ES,λz z z=>rfl⟩)
 |.fdiv=>d8 (A= .FloorDiv) λh=>.yes (h▸⟨_,BP,λz z z=>rfl⟩)
 |.pow=>d8 (A= .Pow) λh=>.yes (h▸⟨_,EP,λz z z=>rfl⟩)
 |_ =>.no
structure Ys(o:Op)where
 nm:Str
 bv:Value
 f:AV->Option AV
 mem:(nm,bv)∈Iu
 h:sg bv f
 hv:I0 bv
 ho:∀(G:jn) a,hZ G o [a]=f a
def Yi(o:Op):Option (Ys o):=match o with
 |.E=>some ⟨_,_,_,.head _,IA,.inl ⟨_,rfl⟩,λz z=>rfl⟩
 |.c=>some ⟨_,_,_,.tail _ (.head _),Iy,.inr ⟨_,rfl⟩,λz z=>rfl⟩
 |.d=>some ⟨_,_,_,.tail _ (.tail _ (.head _)),IB,.inr ⟨_,rfl⟩,λz z=>rfl⟩
 |.repr=>some ⟨_,_,_,.tail _ (.tail _ (.tail _ (.head _))),EX,.inl ⟨_,rfl⟩,λz z=>rfl⟩
 |.abs=>some ⟨_,_,_,.tail _ (.tail _ (.tail _ (.tail _ (.head _)))),IC,.inl ⟨_,rfl⟩,λz z=>rfl⟩
 |.min=>some ⟨_,_,_,.tail _ (.tail _ (.tail _ (.tail _ (.tail _ (.head _))))),Iz,.inl ⟨_,rfl⟩,λz z=>rfl⟩
 |.b=>some ⟨_,_,_,.tail _ (.tail _ (.tail _ (.tail _ (.tail _ (.tail _ (.head _)))))),EY,.inr ⟨_,rfl⟩,λz z=>rfl⟩
 |_ =>none
include X in
theorem Cx.E:GV S.g KU (.builtin "len"):=X.bl _ (.head _)
def Up(o:Op)(es:List IE)(e:Expr):Ok (SO S (.op o es) e):=
 (Ah (Q:=λes=>SO S (.op o es) e) es λa b=>Oe e λx I y p=>(Q5 o I).i λt=>(C.E a x).i λh=>(C.E b y).map λG=>by obtain⟨_,q,D⟩:=t;exact SO.bin q (D _) h G).or<|
 (iO (Q:=λes=>SO S (.op o es) e) es λa=>match Yi o with
  |none=>.no
  |some t=>xC e λf A B p=>mP (Q:=λB=>SO S (.op o [a]) (.Call f A B p)) B<|iO (Q:=λA=>SO S (.op o [a]) (.Call f A [] p)) A λx=>gE (Q:=λf=>SO S (.op o [a]) (.Call f [x] [] p)) (X.bl _ t.mem) f λL F=>(yG C a x).map λh=>SO.b1 t.h (t.ho _) t.hv F h).or<|
 match o with
 |.aj=>Od e λA p=>d8 (es.length<=1000) λH=>(wm C es A).map λh=>SO.aj h H
 |_ =>.no
def Um{b:Bool}(l:List IE)(x:Option Expr):Ok (qc S b l x):=match b with
 |false=>mP (Q:=λl=>qc S false l x) l<|O_ (Q:=λx=>qc S false [] x) x (.yes .no)
 |true=>iO (Q:=λl=>qc S true l x) l λa=>Jh (Q:=λx=>qc S true [a] x) x λe=>(C.E a e).map .yes
def X8(o:Op)(es:List IE)(e:Expr):Ok (SE S (.op o es) e):=match o with
 |.l=>iO (Q:=λes=>SE S (.op .l es) e) es λa=>Oc e λu x p=>d8 (u= .USub) λh=>(C.E a x).map λq=>by rw[h];exact SE.l q
 |.not=>iO (Q:=λes=>SE S (.op .not es) e) es λa=>Oc e λu x p=>d8 (u= .Not) λh=>(C.E a x).map λq=>by rw[h];exact SE.not q
 |.A k i=>iO (Q:=λes=>SE S (.op (.A k i) es) e) es λa=>xA e λx H p=>d8 (k=k-2+2/\(S.g.fld (k-2))[i]? =some H/\dA x=true) λh=>(C.E a x).map λq=>SE.A q h.1 h.2.1 h.2.2
 |.Q=>Ah (Q:=λes=>SE S (.op .Q es) e) es λa b=>xS e λx y p=>d8 (gH y=true) λB=>(C.E a x).i λh=>(C.E b y).map λU=>SE.Q h U B
 |.f lo hi=>He (Q:=λes=>SE S (.op (.f lo hi) es) e) es λa r=>xS e λx V F=>U4 (Q:=λV=>SE S (.op (.f lo hi) (a::r)) (.Subscript x V F)) V λY O P p=>
  O_ (Q:=λP=>SE S (.op (.f lo hi) (a::r)) (.Subscript x (.Slice Y O P p) F)) P<|(C.E a x).i λh=>(Um C (b:=lo) (r.take lo.toNat) Y).i λl=>(Um C (b:=hi) (r.drop lo.toNat) O).map λw=>by
   have:=SE.f (p:=p) (pos:=F) h l w;rw[List.take_append_drop]at this;exact this
 |.tup=>CI e λA k p=>d8 (es.length<=1000) λv=>(wm C es A).map λh=>SE.tup h v
 |.w=>Ah (Q:=λes=>SE S (.op .w es) e) es λa b=>Od e λA p=>Ah (Q:=λA=>SE S (.op .w [a,b]) (.List A p)) A λx z=>U3 (Q:=λz=>SE S (.op .w [a,b]) (.List [x,z] p)) z λy q=>(yG C a x).i λh=>(C.E b y).map λU=>SE.w h U
 |.h k=>iO (Q:=λes=>SE S (.op (.h k) es) e) es λa=>xC e λf A D p=>mP (Q:=λD=>SE S (.op (.h k) [a]) (.Call f A D p)) D<|Ah (Q:=λA=>SE S (.op (.h k) [a]) (.Call f A [] p)) A λx t=>
  gE (Q:=λf=>SE S (.op (.h k) [a]) (.Call f [x,t] [] p)) (X.bl (G4,.builtin "isinstance") (.tail _ (.tail _ (.tail _ (.tail _ (.tail _ (.tail _ (.tail _ (.head _))))))))) f λN Z=>match hk:X.PC k with
   |none=>.no
   |some R=>lT (Q:=λt=>SE S (.op (.h k) [a]) (.Call (.Name G4 N) [x,t] [] p)) t R λtp=>d8 (S.sc.names.lookup R=some .globalImplicit) λB=>(yG C a x).map λh=>eK (X.isOk k R hk) λJ I=>aK I λG L=>SE.h L h Z ⟨B,G.plain,G.h⟩
 |.index=>Ah (Q:=λes=>SE S (.op .index es) e) es λa b=>xC e λf A D p=>mP (Q:=λD=>SE S (.op .index [a,b]) (.Call f A D p)) D<|iO (Q:=λA=>SE S (.op .index [a,b]) (.Call f A [] p)) A λx=>xA (Q:=λf=>SE S (.op .index [a,b]) (.Call f [x] [] p)) f λo H M=>
  d8 (H= "index"/\(M.endLine==p.line)=true) λW=>(Ij o).i λj=>(C.E a o).i λh=>match b with
   |.H y none=>(gI S y x).map λO=>by rw[W.1];exact SE.index h O (λJ=>j _ _ _) W.2
   |_ =>.no
 |.cY=>iO (Q:=λes=>SE S (.op .cY es) e) es λa=>xS e λf x p=>lT (Q:=λf=>SE S (.op .cY [a]) (.Subscript f x p)) f X.yB λN=>d8 (S.sc.names.lookup X.yB=some .globalImplicit/\gH x=true) λB=>(C.E a x).map λh=>eK X.l λJ I=>aK I λG L=>SE.cY L ⟨B.1,G.plain,G.h⟩ h B.2
 |.n=>iO (Q:=λes=>SE S (.op .n es) e) es λa=>xC e λf A D p=>mP (Q:=λD=>SE S (.op .n [a]) (.Call f A D p)) D<|Ah (Q:=λA=>SE S (.op .n [a]) (.Call f A [] p)) A λx z=>xA (Q:=λf=>SE S (.op .n [a]) (.Call f [x,z] [] p)) f λo H M=>
  lT (Q:=λo=>SE S (.op .n [a]) (.Call (.Attribute o H M) [x,z] [] p)) o X.Ae λN=>xK (Q:=λz=>SE S (.op .n [a]) (.Call (.Attribute (.Name X.Ae N) H M) [x,z] [] p)) z λc k m=>
  d8 (S.sc.names.lookup X.Ae=some .globalImplicit/\H= "get"/\c= .str ⟨#[]⟩/\(M.endLine==p.line)=true) λB=>(yG C a x).map λh=>eK X.Fx λJ I=>aK I λG L=>by
   rw[B.2.1,B.2.2.1];exact SE.n L rfl ⟨B.1,G.plain,G.h⟩ h B.2.2.2
 |_ =>.no
end
section
variable {S:cZ}(X:Cx S.g S.cB S.G)(C:Ck S)
def BE(f:CK)(ios:List Nat)(es:List IE)(e:Expr):Ok (SR S (.K f ios es) e):=xC e λA B L p=>mP (Q:=λL=>SR S (.K f ios es) (.Call A B L p)) L<|match f with
 |.fn n=>match hn:X.NV n with
  |none=>.no
  |some D=>gE (Q:=λA=>SR S (.K (.fn n) ios es) (.Call A B [] p)) (X.j n D hn) A λI M=>d8 (ios.Nodup) λP=>(gF (gI S) ios (B.take ios.length)).i λH=>(wm C es (B.drop ios.length)).map λF=>by
   have:=SR.fn (p:=p) (np:=I) M (X.keep n) P H F;rw[List.take_append_drop]at this;exact this
 |.h=>mP (Q:=λios=>SR S (.K .h ios es) (.Call A B [] p)) ios<|He (Q:=λes=>SR S (.K .h [] es) (.Call A B [] p)) es λa r=>(C.E a A).i λh=>(wm C r B).i λR=>
  xN (Q:=λA=>SE S a A->SR S (.K .h [] (a::r)) (.Call A B [] p)) A (λD I=>.yes λh=>SR.h h X.keep R λz=>rfl) |>.map λk=>k h
 |.new c=>mP (Q:=λios=>SR S (.K (.new c) ios es) (.Call A B [] p)) ios<|match hn:X.QN c with
  |none=>.no
  |some D=>gE (Q:=λA=>SR S (.K (.new c) [] es) (.Call A B [] p)) (X.e c D hn).1 A λI M=>(wm C es B).map λh=>SR.new M (X.e c D hn).2 h
 |.P m=>mP (Q:=λios=>SR S (.K (.P m) ios es) (.Call A B [] p)) ios<|He (Q:=λes=>SR S (.K (.P m) [] es) (.Call A B [] p)) es λa r=>xA (Q:=λA=>SR S (.K (.P m) [] (a::r)) (.Call A B [] p)) A λx D N=>
  d8 (dA x=true/\(N.endLine==p.line)=true/\B.length<29/\X.Lr m=some D) λh=>(C.E a x).i λH=>(wm C r B).map λF=>SR.P H h.1 h.2.1 h.2.2.1 F (X.h m D h.2.2.2)
 |.sm c n=>iO (Q:=λios=>SR S (.K (.sm c n) ios es) (.Call A B [] p)) ios λy=>xA (Q:=λA=>SR S (.K (.sm c n) [y] es) (.Call A B [] p)) A λx D N=>
  match hm:(List.range 20).find? λm=>X.Lr m==some D with
  |none=>.no
  |some m=>d8 ((N.endLine==p.line)=true/\B.length<29/\X.Lr m=some D/\S.G.meths m (c+2)=some n) λh=>(gI S y x).i λH=>(wm C es B).map λF=>by
   refine bB λU O=>?_;obtain⟨V,e,q,k⟩:=X.h m D h.2.2.1 _ _ h.2.2.2;cases Nat.add_right_cancel e;exact O (SR.sm H h.1 h.2.1 F q k)
def Yo(e:Expr):Prop:=∀B A,isTrue e B A=(do let v <-A;standAt e.pos;holding [v] (truthy v))
def plainT(e:Expr):Ok (Yo e):=
 (xC e λz z z z=>.yes λz z=>rfl).or<|(xN e λz z=>.yes λz z=>rfl).or<|(xA e λz z z=>.yes λz z=>rfl).or (xS e λz z z=>.yes λz z=>rfl)
def F1{Q:Expr->Prop}(a:IE)(A:List IZ)(es:List IE)(e:Expr)(k:∀x vs p,SE S a x->aT (SE S) es vs->A.length=es.length->lastMarks (A.map gh) vs=false->Q (.Compare x (A.map gh) vs p)):Ok (Q e):=
 R_ e λx B vs p=>d8 (A.map gh=B/\A.length=es.length/\lastMarks (A.map gh) vs=false) λh=>(C.E a x).i λF=>(Ii C es vs).map λD=>h.1▸k x vs p F D h.2.1 h.2.2
def Yc(a:IE)(e:Expr):Ok (SB S a e):=match a with
 |.and A=>Nv e λo D p=>d8 (o= .And) λh=>(gF C.B A D).map λq=>by rw[h];exact SB.and q
 |.or A=>Nv e λo D p=>d8 (o= .Or) λh=>(gF C.B A D).map λq=>by rw[h];exact SB.or q
 |.L t x y=>R9 e λa b c p=>(C.B t a).i λI=>(C.B x b).i λH=>(C.B y c).map λG=>SB.L I H G
 |.I a cs A=>F1 C a cs A e λz z z I H G P=>SB.I I H G P
 |.op .not A=>iO (Q:=λA=>SB S (.op .not A) e) A λa=>Oc e λu x p=>d8 (u= .Not) λh=>(C.B a x).map λq=>by rw[h];exact SB.not q
 |.op .j A=>iO (Q:=λA=>SB S (.op .j A) e) A λa=>R_ e λx F D p=>iO (Q:=λD=>SB S (.op .j [a]) (.Compare x F D p)) D λv=>lT (Q:=λv=>SB S (.op .j [a]) (.Compare x F [v] p)) v X.yB λR=>
  d8 (F=[.NotIn]/\S.sc.names.lookup X.yB=some .globalImplicit) λL=>(C.E a x).map λh=>eK X.l λz N=>aK N λM O=>by rw[L.1];exact SB.j O ⟨L.2,M.plain,M.h⟩ h
 |a=>(C.E a e).i λh=>(plainT e).map λk=>SB.of h k
def X7(a:IE)(e:Expr):Ok (SR S a e):=match a with
 |.K f ios es=>BE X C f ios es e
 |.op o es=>(Up X C o es e).map .op
 |_ =>.no
def MT(k:IK)(t:Expr)(es:List IE)(e:Expr):Ok (IX S k t es e):=match k with
 |.h=>iO (Q:=λes=>IX S .h t es e) es λa=>d8 (rn e=true) λh=>(C.E a e).map λq=>.h q h
 |.range=>iO (Q:=λes=>IX S .range t es e) es λa=>xC e λf A B p=>mP (Q:=λB=>IX S .range t [a] (.Call f A B p)) B<|iO (Q:=λA=>IX S .range t [a] (.Call f A [] p)) A λx=>
  gE (Q:=λf=>IX S .range t [a] (.Call f [x] [] p)) (X.bl (zO,.type "range") (.tail _ (.tail _ (.tail _ (.tail _ (.tail _ (.tail _ (.tail _ (.tail _ (.head _)))))))))) f λG F=>(yG C a x).map λq=>.range q F
 |.d=>iO (Q:=λes=>IX S .d t es e) es λa=>CI (Q:=λt=>IX S .d t [a] e) t λD c tp=>xC e λf A B p=>mP (Q:=λB=>IX S .d (.Tuple D c tp) [a] (.Call f A B p)) B<|iO (Q:=λA=>IX S .d (.Tuple D c tp) [a] (.Call f A [] p)) A λx=>
  gE (Q:=λf=>IX S .d (.Tuple D c tp) [a] (.Call f [x] [] p)) (X.bl (Fo,.type "enumerate") (.tail _ (.tail _ (.tail _ (.tail _ (.tail _ (.tail _ (.tail _ (.tail _ (.tail _ (.head _))))))))))) f λG F=>(yG C a x).map λq=>.d q F
 |.zip=>Ah (Q:=λes=>IX S .zip t es e) es λa b=>CI (Q:=λt=>IX S .zip t [a,b] e) t λD c tp=>xC e λf A B p=>mP (Q:=λB=>IX S .zip (.Tuple D c tp) [a,b] (.Call f A B p)) B<|Ah (Q:=λA=>IX S .zip (.Tuple D c tp) [a,b] (.Call f A [] p)) A λx y=>
  gE (Q:=λf=>IX S .zip (.Tuple D c tp) [a,b] (.Call f [x,y] [] p)) (X.bl (J9,.type "zip") (.tail _ (.tail _ (.tail _ (.tail _ (.tail _ (.tail _ (.tail _ (.tail _ (.tail _ (.tail _ (.head _)))))))))))) f λG F=>(yG C a x).i λq=>(yG C b y).map λH=>.zip q H F
def Uo(S:cZ)(tg:List Nat)(tup:Bool)(t:Expr):Ok (E8 S tg tup t):=match tup with
 |false=>iO (Q:=λtg=>E8 S tg false t) tg λx=>(gI S x t).map .dI
 |true=>CI t λA c p=>(gF (gI S) tg A).map .tup
end
noncomputable def Pc(e:Expr):Str:=if h:e.ctorIdx=23 then Expr.Name.elim (motive_1:=λz=>Str) e h λn z=>n else⟨#[]⟩
noncomputable def H8(e:Expr):List Expr:=if h:e.ctorIdx=25 then Expr.Tuple.elim (motive_1:=λz=>List Expr) e h λl z z=>l else []
def kz(tg:List Nat)(tup:Bool)(t:Expr):List (Nat×Str):=tg.zip ((if tup then H8 t else [t]).map Pc)
noncomputable def sF(S:cZ)(B:Scope)(A:List (Nat×Str)):List (Str×Nat):=A.map (λp=>(p.2,p.1))++S.dY.filter λp=>B.names.lookup p.1==some .free
section
variable {S:cZ}(X:Cx S.g S.cB S.G)(C:Ck S)(D:∀S':cZ,Cx S'.g S'.cB S'.G->Ck S')
def gP.of(h1:sc.kind= .function)(H:∀x∈sc.names,x.2≠.cell)(F:∀x∈sc.names,x.2= .local->sc.names.lookup x.1=some .local)(L:∀p∈A,S.b p.1=false/\sc.names.lookup p.2=some .local)(G:∀p∈A,∀q∈A,p.2=q.2->p.1=q.1)(E:A≠[])
 (I:∀p∈dY,A.lookup p.2=some p.1\/sc.names.lookup p.1=some .free/\S.dY.lookup p.1=some p.2) (B:∀x∈sc.names,x.2= .free->S.sc.names.lookup x.1=some .cell/\(S.dY.lookup x.1).isSome=true):gP S sc dY A:=
 ⟨h1,H,F,λi x h=>L _ (bD h),λi j x a b=>G _ (bD a) _ (bD b) rfl,by
  induction A using cF with
  |nil=>exact absurd rfl E
  |cons p r=>exact⟨p.1,p.2,by rw[List.lookup_cons,beq_self_eq_true]⟩,λx i h=>I _ (bD h),λx m e=>⟨(B x m e).1,Option.isSome_iff_exists.mp (B x m e).2⟩⟩
def QO(cond:List IE)(A:List Expr):Ok (jO S cond A):=
 (mP (Q:=λl=>jO S l A) cond<|mP (Q:=λl=>jO S [] l) A (.yes .j)).or (iO (Q:=λl=>jO S l A) cond λa=>iO (Q:=λl=>jO S [a] l) A λe=>(C.B a e).map .dI)
def MR(elt:IE)(tg:List Nat)(tup:Bool)(k:IK)(es cond:List IE)(G t it:Expr)(B:List Expr)(A:Scope):Ok (uW S A (sF S A (kz tg tup t)) (kz tg tup t) elt tg tup k es cond G t it B):=
 d8 (A.kind= .function/\(∀x∈A.names,x.2≠.cell)/\(∀x∈A.names,x.2= .local->A.names.lookup x.1=some .local)/\(∀p∈kz tg tup t,S.b p.1=false/\A.names.lookup p.2=some .local)/\(∀p∈kz tg tup t,∀q∈kz tg tup t,p.2=q.2->p.1=q.1)/\(kz tg tup t).isEmpty=false) λh=>
 d8 ((∀p∈sF S A (kz tg tup t),(kz tg tup t).lookup p.2=some p.1\/A.names.lookup p.1=some .free/\S.dY.lookup p.1=some p.2)/\(∀x∈A.names,x.2= .free->S.sc.names.lookup x.1=some .cell/\(S.dY.lookup x.1).isSome=true)/\∀i∈tg,((kz tg tup t).lookup i).isSome=true) λF=>
 (Uo (S.inner A (sF S A (kz tg tup t)) (kz tg tup t)) tg tup t).i λI=>((D (S.inner A (sF S A (kz tg tup t)) (kz tg tup t)) X).E elt G).i λL=>(QO (D (S.inner A (sF S A (kz tg tup t)) (kz tg tup t)) X) cond B).i λH=>(MT X C k t es it).map λq4=>
  ⟨.of h.1 h.2.1 h.2.2.1 h.2.2.2.1 h.2.2.2.2.1 (λe=>by have:=h.2.2.2.2.2;rw[e]at this;cases this) F.1 F.2.1,I,λi m=>Option.isSome_iff_exists.mp (F.2.2 i m),λi x e=>(List.of_mem_zip (bD e)).1,L,H,q4⟩
def Yb(a:IE)(e:Expr):Ok (SE S a e):=match a with
 |.d c=>QK S c e
 |.M i=>match h:X.Qp i with
  |none=>d8 ((S.G.M[i]?).isNone=true) λz=>.yes λR l en s I=>by
   show J R l s _ ((aD.d S.G.M[i]?).i _) _;rw[Option.isNone_iff_eq_none.mp z];trivial
  |some M=>lT (Q:=λe=>SE S (.M i) e) e M λm=>d8 (S.sc.names.lookup M=some .globalImplicit) λu=>.yes (eK (X.My i M h) λK n=>eK n λK d=>aK d λj g=>aK g λg2 v=>SE.M ⟨u,j.plain,j.h⟩ g2 v)
 |.H x p=>(kF S x p e).map .H
 |.at x p b=>xS e λpe y q=>d8 (gH y=true) λh=>(kF S x p pe).i λH=>(N0 C p b y).map λN=>SE.at H N h
 |.O x p=>xC e λf F L q=>mP (Q:=λL=>SE S (.O x p) (.Call f F L q)) L<|iO (Q:=λF=>SE S (.O x p) (.Call f F [] q)) F λpe=>gE (Q:=λf=>SE S (.O x p) (.Call f [pe] [] q)) X.E f λm w=>d8 (bV pe=true) λh=>(kF S x p pe).map λH=>SE.O H w h
 |.P x p=>xC e λf F L q=>mP (Q:=λL=>SE S (.P x p) (.Call f F L q)) L<|mP (Q:=λF=>SE S (.P x p) (.Call f F [] q)) F<|xA (Q:=λf=>SE S (.P x p) (.Call f [] [] q)) f λpe M ap=>
  d8 (M= "pop"/\dA pe=true/\(ap.endLine==q.line)=true) λh=>(kF S x p pe).map λH=>by rw[h.1];exact SE.P H (λK=>cG h.2.1) h.2.2
 |.op o es=>(X8 X C o es e).or ((Up X C o es e).map SO.e)
 |.I a cs es=>F1 C a cs es e λK K K H N V h4=>SE.I H N V h4
 |.and es=>Nv e λo P p=>d8 (o= .And/\es.isEmpty=false) λh=>(Ii C es P).map λq=>by rw[h.1];exact SE.and q λe=>by rw[e]at h;cases h.2
 |.or es=>Nv e λo P p=>d8 (o= .Or/\es.isEmpty=false) λh=>(Ii C es P).map λq=>by rw[h.1];exact SE.or q λe=>by rw[e]at h;cases h.2
 |.L t x y=>R9 e λa b c p=>(C.B t a).i λH=>(C.E x b).i λN=>(C.E y c).map λV=>SE.L H N V
 |.B elt tg tup k es cond=>R8 e λZ A U O=>iO (Q:=λA=>SE S (.B elt tg tup k es cond) (.ListComp Z A U O)) A λY=>Fy (Q:=λY=>SE S (.B elt tg tup k es cond) (.ListComp Z [Y] U O)) Y λt r W=>(MR X C D elt tg tup k es cond Z t r W U).map .B
 |.K f ios es=>(BE X C f ios es e).map .K
end
def ck(n:Nat):∀S:cZ,Cx S.g S.cB S.G->Ck S:=Nat.rec (λz z=>⟨λz z=>.no,λz z=>.no,λz z=>.no⟩) (λz A S X=>⟨Yb X (A S X) A,Yc X (A S X),X7 X (A S X)⟩) n
def nU(A:sc.kind= .function)(h:ah.scope=sc):
 swapsWith (.ListComp a g cs pos) (some (.Name nm np)) line ah=pure (sc.names.lookup nm==some .local&&np.line==pos.line&& !(cs.names.any λ(n,k)=>n==nm&&(k==.local || k==.cell))):=by
 unfold swapsWith Env.kindOf;simp only[(by unfold Env.blockKind;rw[h,A];rfl:ah.blockKind= .function),h,BEq.rfl,Bool.true_and]
 rfl
noncomputable def We{Q:ExceptHandler->Prop}(x:ExceptHandler)(k:∀A b p,Ok (Q (.ExceptHandler (some A) none b p))):Ok (Q x):=match x with |.ExceptHandler (some A) none b p=>k A b p |_ =>.no
section
variable {S:cZ}(X:Cx S.g S.cB S.G)(C:Ck S)(D:∀S':cZ,Cx S'.g S'.cB S'.G->Ck S')
def BC(A:Bool)(a:IE)(e:Expr):Ok (y5 S A a e):=match A with
 |false=>(C.E a e).map y5.e
 |true=>(C.R a e).map y5.r
def yF{Q:Prop}(e:Expr)(k:g6 e=true->Ok Q):Ok Q:=d8 (g6 e=true) k
def Yp(e:Expr):Prop:=∀A c tp B,swappedStores [.Tuple A c tp] e B=pure none
def plainS(e:Expr):Ok (Yp e):=(xC e λz z z z=>.yes λz z z z=>rfl).or<|(xN e λz z=>.yes λz z z z=>rfl).or<|(xA e λz z z=>.yes λz z z z=>rfl).or (xS e λz z z=>.yes λz z z z=>rfl)
def Un(x:Nat)(p:mJ)(i:IE)(t:Expr):Ok (UA S x p i t):=xS t λpe y B=>(kF S x p pe).i λh=>(N0 C p i y).map λA=>UA.of h A
def EH(xs:List Nat){Q:Prop}(k:(∀x∈xs,S.lo<=x)->Ok Q):Ok Q:=d8 (∀x∈xs,S.lo<=x) k
def X9(m:Option Nat×IE)(e:Expr):Ok (SM S m e/\bV e=true):=d8 (bV e=true) λh=>match m with
 |(none,a)=>(yG C a e).map λq=>⟨q,h⟩
 |(some y,_)=>(gI S y e).map λq=>⟨q,h⟩
def MV(x:Nat)(A:Bool)(a:IE)(t e:Expr)(p:Pos):Ok (S1 S (.h x A a) (.Assign [t] e p)):=xN (Q:=λt=>S1 S (.h x A a) (.Assign [t] e p)) t λF H=>d8 (S.dY.lookup F=some x/\S.lo<=x) λh=>
 (yF e λP=>(BC C A a e).map λq=>S1.h q (λz z=>fv P) h.1 h.2).or<|
 R8 (Q:=λe=>S1 S (.h x A a) (.Assign [.Name F H] e p)) e λN B G E=>iO (Q:=λB=>S1 S (.h x A a) (.Assign [.Name F H] (.ListComp N B G E) p)) B λM=>Fy (Q:=λM=>S1 S (.h x A a) (.Assign [.Name F H] (.ListComp N [M] G E) p)) M λt U I=>
  d8 (S.sc.kind= .function) λO=>match A,a with
  |false,.B elt tg tup k es cond=>(MR X C D elt tg tup k es cond N t U I G).i λq=>
   match hb:(S.sc.names.lookup F==some .local&&H.line==E.line&& !(G.names.any λ(n,k)=>n==F&&(k==.local || k==.cell)))with
   |true=>.yes (S1.O q (λR L=>by rw[nU O L,hb]) h.1 h.2)
   |false=>.yes (S1.h (y5.e (SE.B q)) (λR L=>by rw[nU O L,hb]) h.1 h.2)
  |_,_ =>.no
def MQ(x:Nat)(p:mJ)(i a:IE)(t e:Expr)(pos:Pos):Ok (S1 S (.set x p i a) (.Assign [t] e pos)):=xS (Q:=λt=>S1 S (.set x p i a) (.Assign [t] e pos)) t λpe y tp=>(kF S x p pe).i λh=>(N0 C p i y).i λA=>yF e λB=>(C.E a e).map λq=>S1.set (UA.of h A) q B
def X6(V:∀as bs,Ok (SL S as bs))(a:IS)(b:Stmt):Ok (S1 S a b):=match a with
 |.h x own a=>GF b λF e p=>iO (Q:=λF=>S1 S (.h x own a) (.Assign F e p)) F λt=>MV X C D x own a t e p
 |.r G a=>GF b λF e p=>iO (Q:=λF=>S1 S (.r G a) (.Assign F e p)) F λt=>CI (Q:=λt=>S1 S (.r G a) (.Assign [t] e p)) t λF c tp=>EH G λW=>(gF (gI S) G F).i λH=>(C.E a e).i λU=>yF e λu=>(plainS e).map λhv=>S1.r W H U u (hv _ _ _)
 |.n rev G es=>GF b λF e p=>iO (Q:=λF=>S1 S (.n rev G es) (.Assign F e p)) F λt=>CI (Q:=λt=>S1 S (.n rev G es) (.Assign [t] e p)) t λF c tp=>CI (Q:=λe=>S1 S (.n rev G es) (.Assign [.Tuple F c tp] e p)) e λM c' vp=>
  match z:Ja S.sc F M with
  |none=>d8 (rev=false/\es.length<=1000/\(M.all (constantsAlone 8)=false\/M.all (foldedForSure 8)=true)) λh=>EH G λW=>(gF (gI S) G F).i λH=>
   (gF (R:=Nh S) (λm v=>d8 (bV v=true) λL=>(BC C m.1 m.2 v).map λq=>⟨q,L⟩) es M).map λU=>by rw[h.1];exact S1.N z W H U h.2.1 h.2.2
  |some ns=>d8 (rev=true/\es.length<=1000/\(M.all (constantsAlone 8)=false\/M.all (foldedForSure 8)=true)) λh=>EH G λW=>(gF (R:=λx I=>S.dY.lookup I=some x) (λx I=>d8 (S.dY.lookup I=some x) .yes) G ns).i λH=>
   (gF (R:=Nh S) (λm v=>d8 (bV v=true) λL=>(BC C m.1 m.2 v).map λq=>⟨q,L⟩) es M).map λU=>by rw[h.1];exact S1.n z W H U h.2.1 h.2.2
 |.set x p i a=>GF b λF e A=>iO (Q:=λF=>S1 S (.set x p i a) (.Assign F e A)) F λt=>MQ C x p i a t e A
 |.A x i j a a'=>GF b λF e A=>iO (Q:=λF=>S1 S (.A x i j a a') (.Assign F e A)) F λt=>CI (Q:=λt=>S1 S (.A x i j a a') (.Assign [t] e A)) t λF c tp=>CI (Q:=λe=>S1 S (.A x i j a a') (.Assign [.Tuple F c tp] e A)) e λM c' vp=>
  Ah (Q:=λF=>S1 S (.A x i j a a') (.Assign [.Tuple F c tp] (.Tuple M c' vp) A)) F λr n=>Ah (Q:=λM=>S1 S (.A x i j a a') (.Assign [.Tuple [r,n] c tp] (.Tuple M c' vp) A)) M λs v2=>
  d8 (tM r=true/\tM n=true/\Ja S.sc [r,n] [s,v2]=none/\([s,v2].all (constantsAlone 8)=false\/[s,v2].all (foldedForSure 8)=true)) λh=>(Un C x none i r).i λu1=>(Un C x none j n).i λu2=>(yG C a s).i λq1=>(yG C a' v2).map λq2=>S1.A u1 u2 h.1 h.2.1 q1 q2 h.2.2.1 h.2.2.2
 |.G x j a=>GF b λF e A=>iO (Q:=λF=>S1 S (.G x j a) (.Assign F e A)) F λt=>xS (Q:=λt=>S1 S (.G x j a) (.Assign [t] e A)) t λpe y tp=>xK (Q:=λy=>S1 S (.G x j a) (.Assign [.Subscript pe y tp] e A)) y λk kk kp=>d8 (k= .int (j:Int)) λhk=>(gI S x pe).i λh=>yF e λu=>(C.E a e).map λq=>by rw[hk];exact S1.G h rfl q u
 |.E k i own a=>GF b λF e A=>iO (Q:=λF=>S1 S (.E k i own a) (.Assign F e A)) F λt=>xA (Q:=λt=>S1 S (.E k i own a) (.Assign [t] e A)) t λpe I ap=>d8 (k=k-2+2/\(S.g.fld (k-2))[i]? =some I) λh=>(gI S 0 pe).i λH=>yF e λu=>(BC C own a e).map λq=>S1.E q u h.1 H h.2 (X.sets _ I (fk h.2)) (X.MA _)
 |.I x p a=>Sh b λe A=>xC (Q:=λe=>S1 S (.I x p a) (.Expr e A)) e λf G P Y=>mP (Q:=λP=>S1 S (.I x p a) (.Expr (.Call f G P Y) A)) P<|iO (Q:=λG=>S1 S (.I x p a) (.Expr (.Call f G [] Y) A)) G λw=>xA (Q:=λf=>S1 S (.I x p a) (.Expr (.Call f [w] [] Y) A)) f λpe I ap=>
  d8 (I= "append"/\dA pe=true/\bV w=true/\(ap.endLine==Y.line)=true) λh=>(kF S x p pe).i λH=>(N0 C p a w).map λU=>by rw[h.1];exact S1.I H h.2.1 U h.2.2.1 h.2.2.2
 |.ex a=>Sh b λe A=>yF e λu=>(C.E a e).map λq=>S1.ex q u
 |.d t x y=>Vb b λe bs cs p=>(C.B t e).i λh=>(V x bs).i λH=>(V y cs).map λU=>S1.d h H U
 |.l tg tup k es body=>Oq b λt it bs O p=>mP (Q:=λO=>S1 S (.l tg tup k es body) (.For t it bs O p)) O<|EH tg λW=>(Uo S tg tup t).i λH=>(MT X C k t es it).i λU=>(V body bs).map λh3=>S1.l H W U h3
 |.M t body=>U' b λe bs O p=>mP (Q:=λO=>S1 S (.M t body) (.While e bs O p)) O<|(C.B t e).i λh=>(V body bs).map λH=>S1.M h H
 |.C own a=>CS b λo p=>Jh (Q:=λo=>S1 S (.C own a) (.Return o p)) o λe=>(BC C own a e).map λq=>S1.C q
 |.F es=>CS b λo p=>Jh (Q:=λo=>S1 S (.F es) (.Return o p)) o λe=>Od (Q:=λe=>S1 S (.F es) (.Return (some e) p)) e λM vp=>d8 (es.length<=1000) λhl=>(gF (X9 C) es M).map λq=>S1.F q hl
 |.q a=>Va b λo o' A=>O_ (Q:=λo'=>S1 S (.q a) (.Raise o o' A)) o'<|Jh (Q:=λo=>S1 S (.q a) (.Raise o none A)) o λe=>xC (Q:=λe=>S1 S (.q a) (.Raise (some e) none A)) e λf G P Y=>mP (Q:=λP=>S1 S (.q a) (.Raise (some (.Call f G P Y)) none A)) P<|iO (Q:=λG=>S1 S (.q a) (.Raise (some (.Call f G [] Y)) none A)) G λx=>
  gE (Q:=λf=>S1 S (.q a) (.Raise (some (.Call f [x] [] Y)) none A)) X.b.1 f λZ z=>(yG C a x).map λq=>S1.q X.b.2 z q
 |.o a a'=>match a,a' with
  |.K (.fn f) [] [.H y none],.d (.j t)=>match hf:X.NV f with
   |none=>.no
   |some I=>Oo b λbs L O fi A=>mP (Q:=λfi=>S1 S (.o (.K (.fn f) [] [.H y none]) (.d (.j t))) (.Try bs L O fi A)) fi<|mP (Q:=λO=>S1 S (.o (.K (.fn f) [] [.H y none]) (.d (.j t))) (.Try bs L O [] A)) O<|
    iO (Q:=λbs=>S1 S (.o (.K (.fn f) [] [.H y none]) (.d (.j t))) (.Try bs L [] [] A)) bs λb1=>CS (Q:=λb1=>S1 S (.o (.K (.fn f) [] [.H y none]) (.d (.j t))) (.Try [b1] L [] [] A)) b1 λo N=>Jh (Q:=λo=>S1 S (.o (.K (.fn f) [] [.H y none]) (.d (.j t))) (.Try [.Return o N] L [] [] A)) o λe=>
    xC (Q:=λe=>S1 S (.o (.K (.fn f) [] [.H y none]) (.d (.j t))) (.Try [.Return (some e) N] L [] [] A)) e λd G P p=>mP (Q:=λP=>S1 S (.o (.K (.fn f) [] [.H y none]) (.d (.j t))) (.Try [.Return (some (.Call d G P p)) N] L [] [] A)) P<|iO (Q:=λG=>S1 S (.o (.K (.fn f) [] [.H y none]) (.d (.j t))) (.Try [.Return (some (.Call d G [] p)) N] L [] [] A)) G λx=>
    gE (Q:=λd=>S1 S (.o (.K (.fn f) [] [.H y none]) (.d (.j t))) (.Try [.Return (some (.Call d [x] [] p)) N] L [] [] A)) (X.j f I hf) d λZ z=>(gI S y x).i λW=>
    iO (Q:=λL=>S1 S (.o (.K (.fn f) [] [.H y none]) (.d (.j t))) (.Try [.Return (some (.Call (.Name I Z) [x] [] p)) N] L [] [] A)) L λha=>We (Q:=λha=>S1 S (.o (.K (.fn f) [] [.H y none]) (.d (.j t))) (.Try [.Return (some (.Call (.Name I Z) [x] [] p)) N] [ha] [] [] A)) ha λty hb l=>
    gE (Q:=λty=>S1 S (.o (.K (.fn f) [] [.H y none]) (.d (.j t))) (.Try [.Return (some (.Call (.Name I Z) [x] [] p)) N] [.ExceptHandler (some ty) none hb l] [] [] A)) X.b.1 ty λbp Xy=>
    iO (Q:=λhb=>S1 S (.o (.K (.fn f) [] [.H y none]) (.d (.j t))) (.Try [.Return (some (.Call (.Name I Z) [x] [] p)) N] [.ExceptHandler (some (.Name X.yK bp)) none hb l] [] [] A)) hb λH=>CS (Q:=λH=>S1 S (.o (.K (.fn f) [] [.H y none]) (.d (.j t))) (.Try [.Return (some (.Call (.Name I Z) [x] [] p)) N] [.ExceptHandler (some (.Name X.yK bp)) none [H] l] [] [] A)) H λo OO=>
    Jh (Q:=λo=>S1 S (.o (.K (.fn f) [] [.H y none]) (.d (.j t))) (.Try [.Return (some (.Call (.Name I Z) [x] [] p)) N] [.ExceptHandler (some (.Name X.yK bp)) none [.Return o OO] l] [] [] A)) o λce=>xK (Q:=λce=>S1 S (.o (.K (.fn f) [] [.H y none]) (.d (.j t))) (.Try [.Return (some (.Call (.Name I Z) [x] [] p)) N] [.ExceptHandler (some (.Name X.yK bp)) none [.Return (some ce) OO] l] [] [] A)) ce λk ck Y=>
    d8 (k= .str t) λhk=>.yes (by rw[hk];exact S1.o X.b.2 Xy z (X.keep f) W)
  |_,_ =>.no
 |.cont=>Vc b λp=>.yes S1.cont
 |.a _ =>.no
def X_(A:∀as bs,Ok (SL S as bs))(as:List IS)(bs:List Stmt):Ok (SL S as bs):=match as with
 |[]=>mP (Q:=λbs=>SL S [] bs) bs (.yes .j)
 |.a xs::r=>(A r bs).map .a
 |a::r=>He (Q:=λbs=>SL S (a::r) bs) bs λb t=>(X6 X C D A a b).i λh=>(A r t).map λB=>.u h B
end
def MW(n:Nat)(S:cZ)(X:Cx S.g S.cB S.G):∀as bs,Ok (SL S as bs):=Nat.rec (λz z=>.no) (λz A as bs=>X_ X (ck 40 S X) (ck 40) A as bs) n
noncomputable def Uh:Data->Option FuncData |.func fd=>some fd |_ =>none
def Bu{d:Data}{fd:FuncData}(h:Uh d=some fd):d= .func fd:=by
 induction d using Data.casesOn<;>cases h
 rfl
def pR(K:Frag)(a:Addr):Option FuncData:=(K.lookup a).bind λo=>Uh o.data
def qw{K:Frag}{a:Addr}{fd:FuncData}(h:pR K a=some fd):f9 (λo=>K.lookup a=some o) (λo=>o.data= .func fd):=
 dg h λo A B=>⟨o,A,Bu B⟩
noncomputable def bodyOf(fd:FuncData):List Stmt:=match fd.body with |.stmts b=>b |_ =>[]
noncomputable def ze(A:Scope):List (Str×Nat):=((A.names.filter λp=>p.2==.local || p.2==.cell).map (·.1)).zipIdx
def n8(A:Scope):List (Nat×Str):=(ze A).map λp=>(p.2,p.1)
noncomputable def QP(g:Gd)(c:Sc)(v:Value):Ok (aZ g v c):=match c,v with
 |.r,.none=>.yes .r
 |.u b,.bool b'=>if h:b'=b then .yes (h▸.u b')else .no
 |.m b,.int b' t=>if h:b'=b then .yes (h▸.m b' t)else .no
 |.j b,.str b' t=>if h:b'=b then .yes (h▸.j b' t)else .no
 |.fn f,.ref a=>if h:a=g.iH f then .yes (h▸.fn f)else .no
 |_,_ =>.no
def BB(g:Gd)(n:Nat):∀(a:AV) (v:Value),Ok (cf g (gJ g.base) v a):=Nat.rec (λz z=>.no) (λz A a v=>match a with
 |.s c=>QP g c v
 |.n k l=>match v with
  |.ref r=>match h:g.K.lookup r with
   |some ⟨.type T,none,.seq AL m,sl⟩=>d8 (sl=#[]/\AL.size<=1000/\(k=0/\T= "tuple"\/k=1/\T= "list")) λe=>(gF (λv a=>A a v) AL.toList l).map λ(q:cm g (gJ g.base) AL.toList l)=>by
    obtain⟨rfl,C,B⟩:=e
    have b:l.length<=dF:=by rw[<-q.E,mF];exact az C (by decide)
    rcases B with⟨rfl,rfl⟩|⟨rfl,rfl⟩
    ·exact .d (g.fH _ _ h) q b
    ·exact .c (g.fH _ _ h) q b
   |_ =>.no
  |_ =>.no) n
def Gh{A:List Str}{P:Str×Nat->Prop}(h:∀p∈A.zipIdx,P p){i:Nat}{x:Str}(e:A[i]? =some x):P (x,i):=h _ (List.mem_zipIdx_iff_getElem?.mpr e)
def JY(g:Gd)(D:Addr)(G:jn)(B:Nat->Nat)(f:Nat)(C:Scope)(A:Nat->List SV->aD (SV×List SV))(n:Nat)(co:fP g D A n B):cZ:=⟨g,D,G,A,n,B,co,C,ze C,λi=>((n8 C).lookup i).isSome || i==999999,B f⟩
def MU(g:Gd)(F:Addr)(G:jn)(D:Nat->Nat)(f:Nat)(d:List IS×Nat×List AV×Nat×Nat)(fd:FuncData)(I:pR g.K (g.iH f)=some fd):Ok (r_ (model g.prog g.w) g.base fd (lh fd) (uq g.K fd)->(∀A n co,SL (JY g F G D f fd.scope A n co) d.1 (bodyOf fd))->Jz g F G D f d):=
 d8 (codeIn g.K fd.code fd.qualname=true/\fd.globals=mainGlobals/\fd.builtins=builtinsNs/\fd.closure.isEmpty=true) λE=>
 d8 ((lh fd).Nodup/\(lh fd).length=d.2.1/\D f+d.2.2.1.length<=d.2.1/\(d.2.1<=d.2.2.2.1/\d.2.2.2.1<=999999)/\d.2.2.2.2=D f/\fd.scope.kind= .function/\fd.scope.isCoroutine=false/\fd.scope.isGenerator=false) λB=>
 d8 ((∀p∈ze fd.scope,(n8 fd.scope).lookup p.2=some p.1)/\(∀p∈n8 fd.scope,(ze fd.scope).lookup p.2=some p.1/\p.2≠⟨#[]⟩/\p.1≠999999/\(fd.scope.names.lookup p.2=some .local/\(p.2,NameKind.cell)∉fd.scope.names\/fd.scope.names.lookup p.2=some .cell))/\(∀p∈(lh fd).zipIdx,(n8 fd.scope).lookup p.2=some p.1)/\∀p∈fd.scope.names,p.2≠.free) λC=>
 (gF (λv a=>BB g 2 a v) (uq g.K fd) d.2.2.1).i λO=>match hb:fd.body with
  |.stmts body=>.yes λN H=>by
   obtain⟨o,L,M⟩:=qw I
   exact⟨o,fd,_,_,ze fd.scope,n8 fd.scope,body,g.fH _ _ L,M,codeRec_of g.fH E.1,E.2.1,E.2.2.1,List.isEmpty_iff.mp E.2.2.2,N,O,B.1,B.2.1,B.2.2.1,B.2.2.2.1,B.2.2.2.2.1,B.2.2.2.2.2.1,B.2.2.2.2.2.2.1,B.2.2.2.2.2.2.2,hb,λx i e=>C.1 _ (bD e),λi x e=>C.2.1 _ (bD e),λi x e=>Gh C.2.2.1 e,λx e=>C.2.2.2 _ (bD e) rfl,λA n co=>by
    have:=H A n co;unfold bodyOf at this;rw[hb]at this
    exact this⟩
  |_ =>.no
noncomputable def MK{A:Type}(o:Option A):(∀a,o=some a->Bool)->Bool:=Option.rec (λz=>false) (λa F=>F a rfl) o
def EK(g:Gd)(B:Addr)(G:jn)(A:Nat->Nat)(f:Nat):Bool:=match G.fns f with
 |none=>true
 |some d=>MK (pR g.K (g.iH f)) λfd h=>(MU g B G A f d fd h).is
def EJ{g:Gd}{B:Addr}{G:jn}(X:Cx g B G)(C:Nat->Nat)(A:Nat->List SV->aD (SV×List SV))(n:Nat)(co:fP g B A n C)(f:Nat):Bool:=match G.fns f with
 |none=>true
 |some d=>match pR g.K (g.iH f)with
  |none=>false
  |some fd=>(MW 60 (JY g B G C f fd.scope A n co) X d.1 (bodyOf fd)).is
def O5{A:Type}{P:Prop}{o:Option A}{F:∀a,o=some a->Bool}(h:MK o F=true)(k:∀a e,F a e=true->P):P:=by
 induction o using aF with
 |none=>cases h
 |some a=>exact k a rfl h
def HR(X:Cx g D G)(h1:∀f,EK g D G B f=true)(F:∀f A n co,EJ X B A n co f=true)(H:∀f fd,pR g.K (g.iH f)=some fd->r_ (model g.prog g.w) g.base fd (lh fd) (uq g.K fd)):∀f d,G.fns f=some d->Jz g D G B f d:=λf d E=>by
 have a:=h1 f;unfold EK at a;rw[E]at a
 exact O5 a λfd C a=>by
  refine(MU g D G B f d fd C).get a (H f fd C) λA n co=>?_
  have b:=F f A n co;unfold EJ at b;rw[E,C]at b;exact Ok.get _ b
def HU(K:Frag)(A:Nat->Addr)(f:Nat):Option Str:=if f<89 then(pR K (A f)).bind λfd=>if fd.qualname=fd.name then some fd.name else none else none
noncomputable def BA(K:Frag)(cls:Nat->Addr)(c:Nat):Option Str:=if c<4 then(clsIn K (cls c)).map (·.name)else none
def isNm(K:Frag)(cls:Nat->Addr)(k:Nat):Option Str:=if k<4 then [KV,⟨#[98,111,111,108]⟩,⟨#[116,117,112,108,101]⟩,KP][k]? else BA K cls (k-4)
def DK(f:Nat):Nat:=(Qv[f]?).elim 0 λd=>d.2.2.2.2
end Mine
namespace Mq
open Mine PySem
def bc:Tx:=pH
def fR:Tx:=wV
def jd:Tx:=yW
def c5:Tx:=qV
def dQ:Tx:=n9
def fX:Tx:=qN
def dK:Tx:=qP
def bM:Tx:=zC
structure RD where
 op:Tx
 a:AV
 b:AV
 c:AV
 l:Int
def RD.v(r:RD):AV:=.n 2 [.j r.op,r.a,r.b,r.c,.m r.l]
def ov:Option RD->AV
 |none=>.r
 |some r=>r.v
abbrev nv(k:Nat):AV:=.m (Int.ofNat k)
abbrev bv(b:Bool):AV:=.u b
noncomputable def aH(S:List Tx)(x:Option RD):Bool:=match x with |none=>false |some r=>S.any λy=>y==r.op
def nT(S:List Tx):AV:=.tup (S.map .j)
def B0(S):p_ (S.map .j)=some S:=by
 induction S with
 |nil=>rfl
 |cons s r A=>exact congrArg (Option.map (s:: ·)) A
def strsOf:AV->List Tx
 |.n 0 l=>(p_ l).getD []
 |_ =>[]
def gS(i:Nat):List Tx:=strsOf (GP.M.getD i .r)
def jZ(S)(A):d_ .c (.j A) (nT S)=some (S.any λy=>y==A):=by
 show(match x8 (.j A),p_ (S.map .j)with |some s,some r=>_ |_,_ =>_)=_
 rw[B0];rfl
def fL(h:ah[x]? =some (.aj l)):eY ah x none=some l:=by
 show((ah[x]?).bind _).bind _=_
 rw[h];rfl
def nJ(h:ah[x]? =some (.aj l)):iN ah x none w=ah.set x (.aj w):=by
 show ah.set x (((ah[x]?).getD .a).iN none (.o w))=_;rw[h];rfl
def DS{ah:List SV}(h:ah[x]? =some (.aj l)):(ah.set x (.aj w))[x]? =some (.aj w):=
 List.getElem?_set_self (mE.mp h).1
def qC{l:List AV}(h:l[k]? =some w):((b_ l.length (Int.ofNat k)).bind λk=>l[k]?)=some w:=by
 unfold b_;rw[if_pos (show 0<=Int.ofNat k from Int.natCast_nonneg k),if_pos (show(Int.ofNat k).toNat<l.length from((mE.mp h).1:k<l.length))];exact h
noncomputable def xg(xs:List (Option RD))(p:Nat):Option RD:=(xs[p]?).join
def Gn(h:p<xs.length):(xs.map ov)[p]? =some (ov (xg xs p)):=by
 rw[di,xg,ij h];rfl
def BQ{xs:List Bool}(h:p<xs.length):(xs.map bv)[p]? =some (bv (xs.getD p false)):=by
 rw[di,kM,ij h];rfl
section
variable {n:Nat}{ah env1:List SV}
def Ev(n:Nat)(ah:List SV)(e:IE)(v:AV):Prop:=ev GP (aa GP n) e ah= .oK (v,ah)
def mW(n:Nat)(ah:List SV)(e:List IE)(v:List AV):Prop:=bu GP (aa GP n) e ah= .oK (v,ah)
def mL(n:Nat)(ah:List SV)(d:Bool)(e:List IE)(b:Bool):Prop:=bO GP (aa GP n) d e ah= .oK (.u b,ah)
def Xs(n:Nat)(ah:List SV)(l:List IS)(r:aD (Fl×List SV)):Prop:=aG GP (aa GP n) l ah=r
def Ex(n:Nat)(ah:List SV)(s:IS)(env1:List SV):Prop:=eG GP (aa GP n) s ah= .oK (.a,env1)
def Ev.d:Ev n ah (.d c) (.s c):=rfl
def Ev.H(h:ah[x]? =some (.h v)):Ev n ah (.H x none) v:=by
 obtain⟨A,B⟩:=mE.mp h;show aD.d ((ah[x]?).bind λs=>s.q.map λv=>(v,ah.set x (.h v)))=_;rw[h];exact congrArg (λz=>aD.oK (v,z)) (by rw[<-B];exact List.set_getElem_self A:ah.set x (.h v)=ah)
def Ev.M(h:GP.M[i]? =some v):Ev n ah (.M i) v:=by
 show(aD.d GP.M[i]?).i _=_
 rw[h];rfl
def Ev.V(h:GP.M[i]? =some (nT (gS i))):Ev n ah (.M i) (nT (gS i)):=.M h
def mW.j:mW n ah [] []:=rfl
def mW.u{e:IE}{es:List IE}{v:AV}{vs:List AV}(h:Ev n ah e v)(hs:mW n ah es vs):mW n ah (e::es) (v::vs):=by
 show(ev GP (aa GP n) e ah).i _=_
 rw[show ev GP (aa GP n) e ah=_ from h]
 show(bu GP (aa GP n) es ah).i _=_
 rw[show bu GP (aa GP n) es ah=_ from hs];rfl
def Ev.op(h:mW n ah es vs)(A:hZ GP o vs=some w):Ev n ah (.op o es) w:=by
 show(bu GP (aa GP n) es ah).i _=_
 rw[show bu GP (aa GP n) es ah=_ from h]
 show(aD.d (hZ GP o vs)).i _=_
 rw[A];rfl
def Ev.g(h:Ev n ah e v)(A:hZ GP o [v]=some w):Ev n ah (.op o [e]) w:=.op (.u h .j) A
def Ev.y(h:Ev n ah e v)(h':Ev n ah B v')(A:hZ GP o [v,v']=some w):Ev n ah (.op o [e,B]) w:=.op (.u h (.u h' .j)) A
def Ev.I(h:Ev n ah a u)(B:Ev n ah e v)(A:d_ o u v=some b):Ev n ah (.I a [o] [e]) (.u b):=by
 show(ev GP (aa GP n) a ah).i _=_
 rw[show ev GP (aa GP n) a ah=_ from h]
 show(ev GP (aa GP n) e ah).i _=_
 rw[show ev GP (aa GP n) e ah=_ from B]
 show(aD.d (d_ o u v)).i _=_
 rw[A];rfl
def Ev.at{x k:Nat}(A:ah[x]? =some (.aj l))(h:Ev n ah e (nv k))(B:l[k]? =some w):Ev n ah (.at x none e) w:=by
 show(aD.d (eY ah x none)).i _=_
 rw[fL A]
 show(ev GP (aa GP n) e ah).i _=_
 rw[show ev GP (aa GP n) e ah=_ from h]
 show(aD.d (eY ah x none)).i _=_
 rw[fL A]
 show(aD.d ((b_ l.length (Int.ofNat k)).bind λk=>l[k]?)).i _=_
 rw[qC B];rfl
def Ev.Z(B:ah[x]? =some (.aj (xs.map ov)))(h:Ev n ah e (nv k))(A:k<xs.length):Ev n ah (.at x none e) (ov (xg xs k)):=.at B h (Gn A)
def Ev.O(A:ah[x]? =some (.aj l)):Ev n ah (.O x none) (nv l.length):=by
 show(aD.d (eY ah x none)).i _=_
 rw[fL A];rfl
def Ev.Q{k:Nat}(B:Ev n ah a (.aj l))(h:Ev n ah e (nv k))(A:l[k]? =some w):Ev n ah (.x [a,e]) w:=.y B h (qC A)
def mL.j:mL n ah d [] d:=rfl
def mL.and(h:Ev n ah e (bv b))(hs:b=true->mL n ah true es c):mL n ah true (e::es) (b&&c):=by
 show(ev GP (aa GP n) e ah).i _=_
 rw[show ev GP (aa GP n) e ah=_ from h]
 induction b using aR
 ·rfl
 ·exact hs rfl
def mL.or(h:Ev n ah e (bv b))(hs:b=false->mL n ah false es c):mL n ah false (e::es) (b || c):=by
 show(ev GP (aa GP n) e ah).i _=_
 rw[show ev GP (aa GP n) e ah=_ from h]
 induction b using aR
 ·exact hs rfl
 ·rfl
def mL.dI(h:Ev n ah e (bv b)):mL n ah d [e] b:=by
 show(ev GP (aa GP n) e ah).i _=_
 rw[show ev GP (aa GP n) e ah=_ from h]
 induction b using aR<;>induction d using aR<;>rfl
def Ev.U(h:mL n ah true es b):Ev n ah (.and es) (bv b):=h
def Ev.Co(h:mL n ah false es b):Ev n ah (.or es) (bv b):=h
def Ev.not(h:Ev n ah e (bv b)):Ev n ah (.o [e]) (bv (!b)):=.g h rfl
def Ev.L(h:Ev n ah t (bv b))(h1:Ev n ah (bif b then a else c) v):Ev n ah (.L t a c) v:=by
 show(ev GP (aa GP n) t ah).i _=_
 rw[show ev GP (aa GP n) t ah=_ from h]
 induction b using aR<;>exact h1
def Ev.G(h:Ev n ah e (nv k)):Ev n ah (.p [e,.d (.m (Int.ofNat j))]) (nv (k+j)):=.y h .d rfl
def Ev.K(h:mW n ah es vs)(A:aa GP n f (vs.map .h)= .oK (.h w,[])):Ev n ah (.K (.fn f) [] es) w:=by
 show(bu GP (aa GP n) es ah).i _=_
 rw[show bu GP (aa GP n) es ah=_ from h]
 show((aa GP n f (vs.map .h)).i _).i _=_
 rw[A];rfl
def Ev.P(h:mW n ah es (a::vs))(B:((dT a).bind λq=>GP.meths m q.1)=some f)(A:aa GP n f (.h a::vs.map .h)= .oK (.h w,[])):Ev n ah (.K (.P m) [] es) w:=by
 show(c6 (bu GP (aa GP n) es ah)).i _=_
 rw[show bu GP (aa GP n) es ah=_ from h]
 show((aD.d ((dT a).bind λq=>GP.meths m q.1)).i _).i _=_
 rw[B]
 show((aa GP n f (.h a::vs.map .h)).i _).i _=_
 rw[A];rfl
def Ev.new(h:mW n ah es vs)(A:aa GP n (GP.a c) (.e (c+2) []::vs.map .h)= .oK (.h .r,[.e k l])):Ev n ah (.K (.new c) [] es) (.n k (l.map SF.q)):=by
 show(bu GP (aa GP n) es ah).i _=_
 rw[show bu GP (aa GP n) es ah=_ from h]
 show(((aa GP n (GP.a c) (.e (c+2) []::vs.map .h)).i _).i _).i _=_
 rw[A];rfl
def Xs.j:Xs n ah [] (.oK (.a,ah)):=rfl
def Xs.u{s:IS}{l:List IS}{r:aD (Fl×List SV)}(h:Ex n ah s env1)(hs:Xs n env1 l r):Xs n ah (s::l) r:=by
 show(eG GP (aa GP n) s ah).i _=_
 rw[show eG GP (aa GP n) s ah=_ from h];exact hs
def Xs.C(h:Ev n ah e v):Xs n ah (.y e::l) (.oK (.C (.h v),ah)):=by
 show(((ev GP (aa GP n) e ah).i _).i _).i _=_
 rw[show ev GP (aa GP n) e ah=_ from h];rfl
def Xs.cont:Xs n ah (.cont::l) (.oK (.cont,ah)):=rfl
def Ex.z(h:Ev n ah t (bv b))(h1:Xs n ah (bif b then c else d) (.oK (.a,env1))):Ex n ah (.d t c d) env1:=by
 show(ev GP (aa GP n) t ah).i _=_
 rw[show ev GP (aa GP n) t ah=_ from h]
 induction b using aR<;>exact h1
def Xs.z(h:Ev n ah t (bv b))(A:(match fl with |.a=>false |_ =>true)=true)(h1:Xs n ah (bif b then c else d) (.oK (fl,env1))):Xs n ah (.d t c d::l) (.oK (fl,env1)):=by
 show(eG GP (aa GP n) (.d t c d) ah).i _=_
 rw[(by
  show(ev GP (aa GP n) t ah).i _=_
  rw[show ev GP (aa GP n) t ah=_ from h]
  induction b using aR<;>exact h1:eG GP (aa GP n) (.d t c d) ah= .oK (fl,env1))]
 cases fl
 ·cases A
 ·rfl
 ·rfl
def cq(h:x.blt ah.length=true):aV ah x v= .oK (ah.set x v):=if_pos (Nat.blt_eq.mp h)
def Ex.h(h:Ev n ah e v)(A:x.blt ah.length=true):Ex n ah (.h x false e) (ah.set x (.h v)):=by
 show((ev GP (aa GP n) e ah).i _).i _=_
 rw[show ev GP (aa GP n) e ah=_ from h]
 show(aV ah x (.h v)).i _=_
 rw[cq A];rfl
def Ex.f(h:Ev n ah (.op o es) (.aj l))(A:x.blt ah.length=true):Ex n ah (.h x true (.op o es)) (ah.set x (.aj l)):=by
 show((ev GP (aa GP n) (.op o es) ah).i _).i _=_
 rw[show ev GP (aa GP n) (.op o es) ah=_ from h]
 show(aV ah x (.aj l)).i _=_
 rw[cq A];rfl
def Ex.I(A:ah[x]? =some (.aj l))(h:Ev n ah e v)(B:l.length<10000):Ex n ah (.I x none e) (ah.set x (.aj (l++[v]))):=by
 show(aD.d (eY ah x none)).i _=_
 rw[fL A]
 show(ev GP (aa GP n) e ah).i _=_
 rw[show ev GP (aa GP n) e ah=_ from h]
 show(aD.d (eY ah x none)).i _=_
 rw[fL A]
 show(if l.length<10000 then aD.oK (Fl.a,iN ah x none (l++[v]))else .aA)=_
 rw[if_pos B,nJ A]
def wQ(A:ah[x]? =some (.aj l))(B:Ev n ah i (nv k))(C:k<l.length):kc GP (aa GP n) x none i v ah= .oK (ah.set x (.aj (l.set k v))):=by
 show(aD.d (eY ah x none)).i _=_
 rw[fL A]
 show(ev GP (aa GP n) i ah).i _=_
 rw[show ev GP (aa GP n) i ah=_ from B]
 show(aD.d (eY ah x none)).i _=_
 rw[fL A]
 show(aD.d (b_ l.length (Int.ofNat k))).i _=_
 unfold b_;rw[if_pos (show 0<=Int.ofNat k from Int.natCast_nonneg k),if_pos (show(Int.ofNat k).toNat<l.length from C),<-nJ A];rfl
def Ex.set(D:Ev n ah e v)(C:ah[x]? =some (.aj l))(B:Ev n ah i (nv k))(A:k<l.length):Ex n ah (.set x none i e) (ah.set x (.aj (l.set k v))):=by
 show(ev GP (aa GP n) e ah).i _=_
 rw[show ev GP (aa GP n) e ah=_ from D]
 show(kc GP (aa GP n) x none i v ah).i _=_
 rw[wQ C B A];rfl
def lQ{xs:List β}(C:ah[x]? =some (.aj (xs.map enc)))(B:Ev n ah i (nv k))(A:k<xs.length):kc GP (aa GP n) x none i (enc v) ah= .oK (ah.set x (.aj ((xs.set k v).map enc))):=by
 rw[wQ C B (by rw[cz];exact A),List.map_set]
def Ex.lQ{xs:List β}(v)(D:Ev n ah e (enc v))(B:ah[x]? =some (.aj (xs.map enc)))(A:Ev n ah i (nv k))(C:k<xs.length):Ex n ah (.set x none i e) (ah.set x (.aj ((xs.set k v).map enc))):=by
 show(ev GP (aa GP n) e ah).i _=_
 rw[show ev GP (aa GP n) e ah=_ from D]
 show(kc GP (aa GP n) x none i (enc v) ah).i _=_
 rw[Mq.lQ B A C];rfl
def Ex.u{B:Type}{enc:B->AV}{xs:List B}(v v')(H:Ev n ah e (enc v))(I:Ev n ah A (enc v'))(C:ah[x]? =some (.aj (xs.map enc)))(G:Ev n ah i (nv k))(E:k<xs.length)(L:Ev n (ah.set x (.aj ((xs.set k v).map enc))) D (nv j))(F:j<xs.length):Ex n ah (.A x i D e A) (ah.set x (.aj (((xs.set k v).set j v').map enc))):=by
 show(ev GP (aa GP n) e ah).i _=_
 rw[show ev GP (aa GP n) e ah=_ from H]
 show(ev GP (aa GP n) A ah).i _=_
 rw[show ev GP (aa GP n) A ah=_ from I]
 show(kc GP (aa GP n) x none i (enc v) ah).i _=_
 rw[Mq.lQ C G E]
 show(kc GP (aa GP n) x none D (enc v') _).i _=_
 rw[Mq.lQ (DS C) L (by rw[eI];exact F),List.set_set];rfl
def Ex.a(h:mW n ah es vs)(A:bz k vs=some items)(B:forLoop (aN tg tup) (λah=>aG GP (aa GP n) body ah) items ah= .oK (.a,env1)):Ex n ah (.l tg tup k es body) env1:=by
 show(bu GP (aa GP n) es ah).i _=_
 rw[show bu GP (aa GP n) es ah=_ from h]
 show(aD.d (bz k vs)).i _=_
 rw[A];exact B
def Ex.s(h:Ev n ah e v)(h':Ev n ah A v')(C:y.blt ah.length=true)(B:x.blt ah.length=true):Ex n ah (.n true [x,y] [(false,e),(false,A)]) ((ah.set y (.h v')).set x (.h v)):=by
 show(((ev GP (aa GP n) e ah).i _).i _).i _=_
 rw[show ev GP (aa GP n) e ah=_ from h]
 show((((ev GP (aa GP n) A ah).i _).i _).i _).i _=_
 rw[show ev GP (aa GP n) A ah=_ from h']
 show((aV ah y (.h v')).i _).i _=_
 rw[cq C]
 show((aV (ah.set y (.h v')) x (.h v)).i _).i _=_
 rw[cq (by rw[eI];exact B)];rfl
def Ex.g(h:Ev n ah (.op o es) (.aj l))(h':Ev n ah A v')(C:y.blt ah.length=true)(B:x.blt ah.length=true):Ex n ah (.n true [x,y] [(true,.op o es),(false,A)]) ((ah.set y (.h v')).set x (.aj l)):=by
 show(((ev GP (aa GP n) (.op o es) ah).i _).i _).i _=_
 rw[show ev GP (aa GP n) (.op o es) ah=_ from h]
 show((((ev GP (aa GP n) A ah).i _).i _).i _).i _=_
 rw[show ev GP (aa GP n) A ah=_ from h']
 show((aV ah y (.h v')).i _).i _=_
 rw[cq C]
 show((aV (ah.set y (.h v')) x (.aj l)).i _).i _=_
 rw[cq (by rw[eI];exact B)];rfl
def fd(f:Nat):List IS×Nat×List AV×Nat×Nat:=(Qv[f]?).getD ([],0,[],0,0)
def env0(f:Nat)(args:List SV):List SV:=jx (fd f).2.2.2.1 (args++((fd f).2.2.1.drop (args.length+(fd f).2.2.1.length-(fd f).2.1)).map .h)
def aO(C:GP.fns f=some (fd f))(A:(args.length.ble (fd f).2.1&&(fd f).2.1.ble (args.length+(fd f).2.2.1.length))=true)(h:Xs n (env0 f args) (fd f).1 (.oK (fl,env1)))(B:(wX fl,jq (fd f).2.2.2.2 env1)=r):aa GP (n+1) f args= .oK r:=by
 show(aD.d (GP.fns f)).i _=_
 rw[C]
 show(if args.length<=(fd f).2.1/\(fd f).2.1<=args.length+(fd f).2.2.1.length then(aG GP (aa GP n) (fd f).1 (env0 f args)).i _ else _)=_
 rw[Bool.and_eq_true,Nat.ble_eq,Nat.ble_eq]at A;rw[if_pos A,show aG GP (aa GP n) (fd f).1 (env0 f args)=_ from h,<-B];rfl
end
noncomputable def A8:Fl->Bool
 |.C _ =>false
 |_ =>true
inductive Turn{σ JT:Type}(n:Nat)(E:σ->JT->List SV)(bind:aD (List SV))(body:List IS)(s s1:σ)(p:Prop):Prop
 |mk {j0 j1:JT} {fl:Fl} (hb:bind= .oK (E s j0)) (h:Xs n (E s j0) body (.oK (fl,E s1 j1))) (hf:A8 fl=true) (hp:p)
def bk(f i:Nat):IS:=(fd f).1.getD i .cont
def Ex.loop(E)(I:List β->σ->Prop)(enc)(step){s:σ}{j:JT}(N:t= .l tg tup k es body)(h:mW n (E s j) es vs)(C:bz k vs=some (l.map enc))(D:I l s)(O:∀b l s j,I (b::l) s->Turn n E (aN tg tup (enc b) (E s j)) body s (step s b) (I l (step s b))):∃j1,Ex n (E s j) t (E (l.foldl step s) j1)/\I [] (l.foldl step s):=by
 subst N
 have:∀s j,I l s->∃j1,forLoop (aN tg tup) (λH=>aG GP (aa GP n) body H) (l.map enc) (E s j)= .oK (.a,E (l.foldl step s) j1)/\I [] (l.foldl step s):=by
  clear h C D
  induction l with
  |nil=>exact λs j h=>⟨j,rfl,h⟩
  |cons b l P=>
   intro s j h;obtain @⟨A,j1,Q,F,R,G,p⟩:=O b l s j h;obtain⟨M,B,L⟩:=P (step s b) j1 p;refine⟨M,?_,L⟩
   show(aN tg tup (enc b) (E s j)).i _=_
   rw[F]
   show(aG GP (aa GP n) body (E s A)).i _=_
   rw[show aG GP (aa GP n) body (E s A)=_ from R];cases Q
   ·exact B
   ·exact B
   ·cases G
 obtain⟨j1,e,p⟩:=this s j D;exact⟨j1,.a h C e,p⟩
def Ev.xB(E:JT->List SV)(enc)(B)(f:β->N)(p){es cond:List IE}{l:List β}{j:JT}(h:mW n (E j) es vs)(G:bz k vs=some (l.map enc))(I:∀j1,gA tg (E j1)=E j)(D:∀b∈l,∀j,∃j0,aN tg tup (enc b) (E j)= .oK (E j0)/\mL n (E j0) true cond (p b)/\(p b=true->Ev n (E j0) elt (B (f b)))):Ev n (E j) (.B elt tg tup k es cond) (.aj (((l.filter p).map f).map B)):=by
 obtain⟨j1,e⟩:=(by
  clear h G
  induction l with
  |nil=>exact λA j=>⟨j,by rw[show A++List.map B (List.map f (List.filter p []))=A from List.append_nil A];rfl⟩
  |cons b l F=>
   intro A j;obtain⟨j0,H,M,L⟩:=D b (.head _) j
   rw[(by
    show(aN tg tup (enc b) (E j)).i _=_
    rw[H]
    show(bO GP (aa GP n) true cond (E j0)).i _=_
    rw[show bO GP (aa GP n) true cond (E j0)=_ from M];rfl:compLoop (aN tg tup) (bO GP (aa GP n) true cond) (ev GP (aa GP n) elt) ((b::l).map enc) A (E j)=if p b then(ev GP (aa GP n) elt (E j0)).i λy=>compLoop (aN tg tup) (bO GP (aa GP n) true cond) (ev GP (aa GP n) elt) (l.map enc) (A++[y.1]) y.2 else compLoop (aN tg tup) (bO GP (aa GP n) true cond) (ev GP (aa GP n) elt) (l.map enc) A (E j0))]
   cases hp:p b
   ·obtain⟨j1,e⟩:=F (λb C=>D b (.tail _ C)) A j0;rw[List.filter_cons_of_neg (by rw[hp];exact fO)];exact⟨j1,e⟩
   ·obtain⟨j1,e⟩:=F (λb C=>D b (.tail _ C)) (A++[B (f b)]) j0;rw[List.filter_cons_of_pos hp,if_pos rfl,show ev GP (aa GP n) elt (E j0)=_ from L hp];rw[iC]at e
    exact⟨j1,e⟩:∀(A:List AV) j,∃j1,compLoop (aN tg tup) (bO GP (aa GP n) true cond) (ev GP (aa GP n) elt) (l.map enc) A (E j)= .oK (A++((l.filter p).map f).map B,E j1)) [] j
 show(bu GP (aa GP n) es (E j)).i _=_
 rw[show bu GP (aa GP n) es (E j)=_ from h]
 show(aD.d (bz k vs)).i _=_
 rw[G]
 show(c6 (compLoop (aN tg tup) (bO GP (aa GP n) true cond) (ev GP (aa GP n) elt) (l.map enc) [] (E j))).i _=_
 rw[e];exact congrArg (λz=>aD.oK (AV.aj (((l.filter p).map f).map B),z)) (I j1)
def Ev.X(E:JT->List SV)(enc)(A)(f:β->F){vs:List AV}{l:List β}{j:JT}(h:mW n (E j) es vs)(D:bz k vs=some (l.map enc))(C:∀j1,gA tg (E j1)=E j)(B:∀b∈l,∀j,∃j0,aN tg tup (enc b) (E j)= .oK (E j0)/\Ev n (E j0) elt (A (f b))):Ev n (E j) (.B elt tg tup k es []) (.aj ((l.map f).map A)):=by
 have:=Ev.xB E enc A f (λz=>true) (cond:=[]) h D C λb m j=>(B b m j).elim λj0 q=>⟨j0,q.1,.j,λz=>q.2⟩;rw[List.filter_eq_self.mpr λz z=>rfl]at this;exact this
def EV(n:Nat)(ah:List SV)(e:List IE)(v:List AV)(env1:List SV):Prop:=bu GP (aa GP n) e ah= .oK (v,env1)
def EV.j:EV n ah [] [] ah:=rfl
def EV.u{n:Nat}{ah env1:List SV}{e:IE}{es:List IE}{v:AV}{vs:List AV}(h:Ev n ah e v)(hs:EV n ah es vs env1):EV n ah (e::es) (v::vs) env1:=by
 show(ev GP (aa GP n) e ah).i _=_
 rw[show ev GP (aa GP n) e ah=_ from h]
 show(bu GP (aa GP n) es ah).i _=_
 rw[show bu GP (aa GP n) es ah=_ from hs];rfl
def EV.a(h:ah[y]? =some (.aj l))(hs:EV n (ah.set y (.h (.aj l))) es vs env1):EV n ah (.H y none::es) (.aj l::vs) env1:=by
 show(aD.d ((ah[y]?).bind λs=>s.q.map λv=>(v,ah.set y (.h v)))).i _=_
 rw[h]
 show(bu GP (aa GP n) es (ah.set y (.h (.aj l)))).i _=_
 rw[show bu GP (aa GP n) es _=_ from hs];rfl
def Xs.h(h:EV n ah es vs env1)(A:aa GP n f (vs.map .h)= .oK (.h w,[])):Xs n ah (.y (.K (.fn f) [] es)::l) (.oK (.C (.h w),env1)):=by
 show((((bu GP (aa GP n) es ah).i _).i _).i _).i _=_
 rw[show bu GP (aa GP n) es ah=_ from h]
 show(((((aa GP n f (vs.map .h)).i _).i _).i _).i _).i _=_
 rw[A];rfl
def Xs.i(h:EV n ah es (a::vs) env1)(B:((dT a).bind λq=>GP.meths m q.1)=some f)(A:aa GP n f (.h a::vs.map .h)= .oK (.h w,[])):Xs n ah (.y (.K (.P m) [] es)::l) (.oK (.C (.h w),env1)):=by
 show((((c6 (bu GP (aa GP n) es ah)).i _).i _).i _).i _=_
 rw[show bu GP (aa GP n) es ah=_ from h]
 show(((((aD.d ((dT a).bind λq=>GP.meths m q.1)).i _).i _).i _).i _).i _=_
 rw[B]
 show(((((aa GP n f (.h a::vs.map .h)).i _).i _).i _).i _).i _=_
 rw[A];rfl
def Xs.k(h:ah[y]? =some (.aj l)):Xs n ah (.y (.H y none)::r) (.oK (.C (.h (.aj l)),ah.set y (.h (.aj l)))):=by
 show(((aD.d ((ah[y]?).bind λs=>s.q.map λv=>(v,ah.set y (.h v)))).i _).i _).i _=_
 rw[h];rfl
def Ex.q{cond:List IE}(h:ah[y]? =some (.aj l))(h1:Ex n (ah.set y (.h (.aj l))) (.h x false (.B elt tg tup k [.H y none] cond)) env1):Ex n ah (.h x false (.B elt tg tup k [.H y none] cond)) env1:=by
 refine Eq.trans ?_ h1
 show(((bu GP (aa GP n) [.H y none] ah).i _).i _).i _=(((bu GP (aa GP n) [.H y none] (ah.set y (.h (.aj l)))).i _).i _).i _
 rw[(EV.a h .j:bu GP (aa GP n) [.H y none] ah= .oK ([.aj l],ah.set y (.h (.aj l)))),(mW.u (.H (List.getElem?_set_self (mE.mp h).1:(ah.set y (.h (.aj l)))[y]? =some (.h (.aj l)))) .j:bu GP (aa GP n) [.H y none] (ah.set y (.h (.aj l)))= .oK ([.aj l],ah.set y (.h (.aj l))))]
def nh(k)(S)(x):aa GP (k+1) 34 [.h (ov x),.h (nT S)]= .oK (.h (bv (aH S x)),[]):=by
 induction x using aF with
 |none=>rfl
 |some r=>
  exact aO rfl rfl (.C (.U (.and (.I (.H rfl) .d rfl) λz=>.dI (.I (.g (.H rfl) rfl) (.H rfl) (jZ S r.op))):Ev k [.h r.v,.h (nT S)] (.and [.I (.r 0) [.b] [.d .r],.w (.a 2 0 [.r 0]) (.r 1)]) (bv (true&&(S.any λy=>y==r.op))))) rfl
def Ev.nh(h:Ev (n+1) ah e (ov x))(A:Ev (n+1) ah t (nT S)):Ev (n+1) ah (.h 34 [e,t]) (bv (aH S x)):=.K (.u h (.u A .j)) (Mq.nh n S x)
def Ev.Y(h:Ev n ah e r.v)(A:Ev n ah t (nT S)):Ev n ah (.w (.a 2 0 [e]) t) (bv (aH S (some r))):=.I (.g h rfl) A (jZ S r.op)
def Ev.Aq(h:Ev n ah e r.v)(A:Ev n ah t (nT S)):Ev n ah (.I (.a 2 0 [e]) [.a] [t]) (bv (!aH S (some r))):=.I (.g h rfl) A (congrArg (Option.map (!·)) (jZ S r.op))
def Ev.va:Ev n ah (.u [.d (.j s)]) (nT [s]):=.g .d rfl
structure CT where
 s:Tx
 f:Nat
 la:Nat
 t:Nat
 d:Int
def CT.v(q:CT):AV:=.n 3 [.j q.s,nv q.f,nv q.la,nv q.t,.m q.d]
structure BD where
 ag:List RD
 aL:List CT
 aB:List Nat
structure HD where
 f:AV
 name:AV
 params:AV
 slots:AV
 kids:List AV
def cv(h:HD)(B:BD):AV:=.n 4 [h.f,h.name,h.params,h.slots,.aj (B.ag.map RD.v),.aj (B.aL.map CT.v),.aj h.kids,.aj (B.aB.map nv),.r]
noncomputable def b9(r:RD):Nat:=match r.a with
 |.s (.m i)=>i.toNat
 |_ =>0
def dB(r:RD):Bool:=aH (gS 4) (some r)
def dP:List AV:=[bv true,.m 0,.j ⟨#[]⟩,.j ⟨#[115]⟩,.m 5,.j Ki,.r,bv false]
def sM:Tx:=n_
def JL:Tx:=zN
def bT:Tx:=zI
def vd:Tx:=sV
def CU:Tx:=qO
def bq:Tx:=sW
def uZ(k:Nat):List AV:=[[.j Kf,.j Ke,.j Kd],[.j Kc,.j Kb,.j J_],[.j ⟨#[67]⟩,.j ⟨#[68]⟩,.j ⟨#[69]⟩],[.j Kg,.j ⟨#[109]⟩,.j Ka],[.j ⟨#[112]⟩,.j ⟨#[113]⟩,.j ⟨#[116]⟩]].getD k []
abbrev Q3:=Tx×AV×AV
def bar(o:Tx)(a:AV):Q3:=(o,a,.r)
def zi:List Q3:=dP.map (bar c5)
def mX:List Q3:=([xX,wU].flatMap λo=>[0,1].flatMap λA=>[0,1,2,3,4,7].map λi=>(o,nv A,nv i))
def zj:List Q3:=[(qU,0),(qT,1),(qS,0),(qR,1),(pI,2),(qQ,4),(sX,3)].flatMap λq=>(uZ q.2).map (bar q.1)
def vc:List Q3:=[sM,JL,fX,dQ,dK,bM,vl].map (bar · .r)++[bar qU (nv 5),bar qT (nv 5)]
def zk:List Q3:=(uZ 2).flatMap λx=>(uZ 4).map λy=>(m6,x,y)
def gX:List Q3:=[0,1,9].map (λi=>bar bT (nv i))
def lM:List Q3:=(uZ 3).flatMap λx=>[0,1].map λi=>(vd,x,nv i)
def xT:List Q3:=[.j zJ,.j zM].map (bar CU)
def mY:List Q3:=(uZ 3).map λx=>(bq,x,nv 0)
def fu:List AV:=[.j xZ,.j n_,.j xY].flatMap λy=>[.r,.tup [.j x6,nv 0],.tup [.j x6,nv 1]].map λz=>.tup [y,z]
def eT:List Q3:=zi++(mX++(zj++(vc++(zk++(gX++(lM++xT))))))
def BY:List (Tx×AV×AV×AV):=(eT.map λt=>(t.1,t.2.1,t.2.2,.r))++mY.flatMap λt=>fu.map λc=>(t.1,t.2.1,t.2.2,c)
def Fv(k m:Nat)(a:AV):Bool:=match a.data with
 |some d=>decide (d.depth<=k)&&(d.canLay0&&(d.showable&&decide (d.shown.length<=m)))
 |none=>false
def rP:List Tx:=bM::dQ::gS 4
structure CG(r:RD):Prop where
 a:r.a= .r\/dB r=true/\∃t,r.a=nv t
 b:r.b= .r
 c:r.c= .r
 op:r.op∈rP
def Al(r:RD):Prop:=(r.op,r.a,r.b,r.c)∈BY\/CG r
def Gd(n:Nat)(r:RD):Prop:=(dB r=true->(r.a=nv (b9 r)/\b9 r<n)/\r.b= .r/\r.c= .r)/\(aH [c5] (some r)=true->r.a∈dP)
structure WF(B:BD):Prop where
 E:B.ag.length<=16
 ag:∀r∈B.ag,Gd B.ag.length r
 last:∀r,B.ag.getLast? =some r->aH (gS 5) (some r)=true
 aL:∀q∈B.aL,q.f<=B.ag.length/\q.la<=B.ag.length/\q.t<B.ag.length
 aB:∀s∈B.aB,s<B.ag.length
 g:B.aL.length<=4
 qL:B.aB.length<=8
 al:∀r∈B.ag,Al r
def FD(f:List Bool)(r:RD):List Bool:=bif dB r then f.set (b9 r) true else f
noncomputable def Pj(f:List Bool)(q:CT):List Bool:=f.set q.t true
noncomputable def Ph(f:List Bool)(s:Nat):List Bool:=f.set s true
def bA(B:BD):List Bool:=B.aB.foldl Ph (B.aL.foldl Pj (B.ag.foldl FD (List.replicate (B.ag.length+1) false)))
def vB(B):(bA B).length=B.ag.length+1:=by
 unfold bA
 rw[(λl=>by
  induction l with
  |nil=>exact λf=>rfl
  |cons r l A=>exact λf=>(A _).trans eI:∀(l:List Nat) f,(l.foldl Ph f).length=f.length),(λl=>by
   induction l with
   |nil=>exact λf=>rfl
   |cons r l A=>exact λf=>(A _).trans eI:∀(l:List CT) f,(l.foldl Pj f).length=f.length),(λl=>by
    induction l with
    |nil=>exact λf=>rfl
    |cons r l A=>exact λf=>(A _).trans (by unfold FD;cases dB r;rfl;exact eI):∀(l:List RD) f,(l.foldl FD f).length=f.length),uR]
def zX(k)(a):x9 k [a]=List.replicate k a:=by
 induction k with
 |zero=>rfl
 |succ k A=>exact congrArg (a:: ·) A
def vz(h:k<=10000):hZ GP .a [.aj [a],nv k]=some (.aj (List.replicate k a)):=by
 show(if([a]:List AV).length*k<=10000/\k<2^40 then some (AV.aj (x9 k [a]))else none)=_
 rw[if_pos ⟨by rw[qa,Nat.one_mul];exact h,eV h (by decide)⟩,zX]
def Ev.E(h:Ev n ah e (.aj l)):Ev n ah (.n [e]) (nv l.length):=.g h rfl
def jA(k)(h)(w:WF B):aa GP (k+1) 36 [.h (cv h B)]= .oK (.h (.aj ((bA B).map bv)),[]):=by
 refine bB λQ L=>?_;have G:Ex k (env0 36 [.h (cv h B)]) (bk 36 0) _ :=Ex.f (.y (.g .d rfl) (.G (.E (.g (.H rfl) rfl))) (vz (by rw[cz];exact az (eU w.E) (by decide)))) rfl;rw[cz,<-List.map_replicate (f:=bv) (a:=false)]at G
 have F:=Ex.loop (n:=k) (t:=bk 36 1) (j:=SV.a) (s:=List.replicate (B.ag.length+1) false) (λf j=>[.h (cv h B),.aj (f.map bv),j,.a,.a]) (λ(l:List RD) f=>f.length=B.ag.length+1/\∀r∈l,Gd B.ag.length r) RD.v FD rfl (.u (.g (.H rfl) rfl) .j) rfl ⟨uR,w.ag⟩ λr l f j A=>by
  have C:Ev k [.h (cv h B),.aj (f.map bv),.h r.v,.a,.a] (.w (.a 2 0 [.r 2]) (.M 4)) (bv (dB r)):=.Y (.H rfl) (.V rfl);have I:=(A.2 r (.head _)).1;unfold FD;cases hj:dB r
  ·rw[hj]at C;exact .mk rfl (.u (.z C .j) .j) rfl ⟨A.1,λx m=>A.2 x (.tail _ m)⟩
  ·rw[hj]at C;exact .mk rfl (.u (.z C (.u (.lQ (enc:=bv) true .d rfl (.g (.H rfl) (congrArg some (I hj).1.1)) (by rw[A.1];exact Nat.lt_succ_of_lt (I hj).1.2)) .j)) .j) rfl ⟨eI.trans A.1,λx m=>A.2 x (.tail _ m)⟩
 obtain⟨H,F,M⟩:=F
 have D:=Ex.loop (n:=k) (t:=bk 36 2) (j:=SV.a) (λf j=>[.h (cv h B),.aj (f.map bv),H,j,.a]) (λ(l:List CT) f=>f.length=B.ag.length+1/\∀q∈l,q.t<B.ag.length) CT.v Pj rfl (.u (.g (.H rfl) rfl) .j) rfl ⟨M.1,λq m=>(w.aL q m).2.2⟩ λr l f j A=>
  .mk rfl (.u (.lQ (enc:=bv) true .d rfl (.g (.H rfl) rfl) (by rw[A.1];exact Nat.lt_succ_of_lt (A.2 r (.head _)))) .j) rfl ⟨eI.trans A.1,λx m=>A.2 x (.tail _ m)⟩
 obtain⟨N,D,O⟩:=D
 have E:=Ex.loop (n:=k) (t:=bk 36 3) (j:=SV.a) (λf j=>[.h (cv h B),.aj (f.map bv),H,N,j]) (λ(l:List Nat) f=>f.length=B.ag.length+1/\∀q∈l,q<B.ag.length) nv Ph rfl (.u (.g (.H rfl) rfl) .j) rfl ⟨O.1,w.aB⟩ λr l f j A=>
  .mk rfl (.u (.lQ (enc:=bv) true .d rfl (.H rfl) (by rw[A.1];exact Nat.lt_succ_of_lt (A.2 r (.head _)))) .j) rfl ⟨eI.trans A.1,λx m=>A.2 x (.tail _ m)⟩
 obtain⟨R,E,P⟩:=E;exact L (aO rfl rfl (.u G (.u F (.u D (.u E (.k rfl))))) rfl)
noncomputable def kp(xs:List (Option RD)):List RD:=xs.filterMap id
def fN(xs:List (Option RD))(t:Nat):Nat:=(kp (xs.take t)).length
def tf(xs:List (Option RD))(k:Nat):List Nat:=(List.range k).map (fN xs)
def rt(g:Nat->Nat)(r:RD):RD:=bif dB r then{r with a:=nv (g (b9 r))}else r
noncomputable def cg(g:Nat->Nat)(q:CT):Option CT:=bif decide (Int.ofNat (g q.f)<Int.ofNat (g q.la))then some {q with f:=g q.f,la:=g q.la,t:=g q.t}else none
def dS(B:BD)(xs:List (Option RD)):BD:=⟨(kp xs).map (rt (fN xs)),B.aL.filterMap (cg (fN xs)),B.aB.map (fN xs)⟩
def z9(h:xs=ys++x::rest):(tf xs (ys++[x]).length).map nv=(tf xs ys.length).map nv++[nv ((kp ys).map RD.v).length]:=by
 unfold tf;rw[dc,qa,List.range_succ,List.map_append,List.map_append,cz,<-(by unfold fN;rw[h,List.take_left]:fN xs ys.length=(kp ys).length)];rfl
def lk(h:t<k):((tf xs k).map nv)[t]? =some (nv (fN xs t)):=by
 unfold tf;rw[cH,di,List.getElem?_range h];rfl
def w_(ys)(x):kp (ys++[x])=kp ys++kp [x]:=List.filterMap_append
def iR:r∈kp xs↔some r∈xs:=by
 unfold kp;rw[List.mem_filterMap];exact⟨kE λa=>And.elim λh e=>by rw[show a=some r from e]at h;exact h,λh=>⟨_,h,rfl⟩⟩
structure Jy(B:BD)(xs:List (Option RD)):Prop where
 E:xs.length<=100
 g:B.aL.length<=100
 ag:∀r,some r∈xs->dB r=true->r.a=nv (b9 r)/\b9 r<=xs.length
 aL:∀q∈B.aL,q.f<=xs.length/\q.la<=xs.length/\q.t<=xs.length
 aB:∀s∈B.aB,s<=xs.length
def k9(k)(o a b c l):aa GP (k+1) (GP.a 0) (.e 2 []::[o,a,b,c,l].map .h)= .oK (.h .r,[.e 2 [.v o,.v a,.v b,.v c,.v l]]):=by kernel_rfl
def xE(k)(o a b c l):aa GP (k+1) (GP.a 1) (.e 3 []::[o,a,b,c,l].map .h)= .oK (.h .r,[.e 3 [.v o,.v a,.v b,.v c,.v l]]):=by kernel_rfl
def By(k)(a b c d e f g i):aa GP (k+1) (GP.a 2) (.e 4 []::[a,b,c,d,e,f,g,i].map .h)= .oK (.h .r,[.e 4 [.v a,.v b,.v c,.v d,.v e,.v f,.v g,.v i,.v .r]]):=by kernel_rfl
def y9(k:Nat)(r:RD)(x:AV):aa GP (k+2) 1 [.h r.v,.h x]= .oK (.h {r with a:=x}.v,[]):=by kernel_rfl
def y_(k)(h)(B)(R C S K):aa GP (k+2) 5 [.h (cv h B),.h (.aj R),.h (.aj C),.h (.aj S),.h (.aj K)]= .oK (.h (.n 4 [h.f,h.name,h.params,h.slots,.aj R,.aj C,.aj K,.aj S,.r]),[]):=by kernel_rfl
def xi(h:m<=100):m<10000:=eV h (by decide)
def DB(k)(c)(w:xs.length<=100):∃j1,Ex (k+2) [.h c,.h (.aj (xs.map ov)),.aj [],.aj [],.a,.a,.a,.a,.a,.a,.a] (bk 37 1) [.h c,.h (.aj (xs.map ov)),.aj ((tf xs xs.length).map nv),.aj ((kp xs).map RD.v),j1,.a,.a,.a,.a,.a,.a]:=by
 have D:=Ex.loop (n:=k+2) (t:=bk 37 1) (j:=SV.a) (s:=([]:List (Option RD))) (l:=xs) (λA j=>[.h c,.h (.aj (xs.map ov)),.aj ((tf xs A.length).map nv),.aj ((kp A).map RD.v),j,.a,.a,.a,.a,.a,.a]) (λB A=>xs=A++B) ov (λA x=>A++[x]) rfl (.u (.H rfl) .j) rfl rfl λx B A j C=>by
  have G:A.length<=100:=az (by rw[C,dc];exact eN _ _) w;have E:Ex (k+2) [.h c,.h (.aj (xs.map ov)),.aj ((tf xs A.length).map nv),.aj ((kp A).map RD.v),.h (ov x),.a,.a,.a,.a,.a,.a] (.I 2 none (.O 3 none)) _ :=.I rfl (.O rfl) (by rw[cz,tf,cz,List.length_range];exact xi G);rw[<-z9 C]at E
  induction x using aF with
  |none=>exact .mk rfl (.u E (.u (.z (b:=false) (.I (.H rfl) .d rfl) .j) (by rw[show kp A=kp (A++[none])by rw[w_];exact(List.append_nil _).symm];exact .j))) rfl (by rw[iC];exact C)
  |some r=>exact .mk rfl (.u E (.u (.z (b:=true) (.I (.H rfl) .d rfl) (.u (.I rfl (.H rfl) (by rw[cz];exact xi (az (List.length_filterMap_le _ _) G))) .j)) (by rw[show(kp A).map RD.v++[ov (some r)]=(kp (A++[some r])).map RD.v by rw[w_,List.map_append];rfl];exact .j))) rfl (by rw[iC];exact C)
 obtain⟨j1,D,F⟩:=D;rw[List.append_nil]at F;rw[<-F]at D;exact⟨j1,D⟩
def DA(k)(c X j1)(P)(A:List RD)(g)(B:∀r∈A,dB r=true->r.a=nv (b9 r)/\P[b9 r]? =some (nv (g (b9 r)))):Ev (k+2) [c,X,.aj P,.h (.aj (A.map RD.v)),j1,.a,.a,.a,.a,.a,.a] (.B (.L (.w (.a 2 0 [.r 9]) (.M 4)) (.K (.P 10) [] [.r 9,.at 2 none (.a 2 1 [.r 9])]) (.r 9)) [9] false .h [.r 3] []) (.aj ((A.map (rt g)).map RD.v)):=
 Ev.X (j:=SV.a) (λj=>[c,X,.aj P,.h (.aj (A.map RD.v)),j1,.a,.a,.a,.a,j,.a]) RD.v RD.v (rt g) (.u (.H rfl) .j) rfl (λz=>rfl) λr m j=>⟨.h r.v,rfl,.L (b:=dB r) (.Y (.H rfl) (.V rfl)) (by
  unfold rt;cases hj:dB r
  ·exact .H rfl
  ·have B:=B r m hj
   exact .P (.u (.H rfl) (.u (.at rfl (.g (.H rfl) (congrArg some B.1)) B.2) .j)) rfl (y9 k r _))⟩
def Dz(k)(h)(B)(X K j1)(P)(g)(w:B.aL.length<=100)(D:∀q∈B.aL,P[q.f]? =some (nv (g q.f))/\P[q.la]? =some (nv (g q.la))/\P[q.t]? =some (nv (g q.t))):∃j:SV×SV×SV,Ex (k+2) [.h (cv h B),X,.aj P,K,j1,.aj [],.a,.a,.a,.a,.a] (bk 37 5) [.h (cv h B),X,.aj P,K,j1,.aj ((B.aL.filterMap (cg g)).map CT.v),j.1,j.2.1,j.2.2,.a,.a]:=by
 have E:=Ex.loop (n:=k+2) (t:=bk 37 5) (j:=(SV.a,SV.a,SV.a)) (s:=([]:List CT)) (l:=B.aL) (λA j=>[.h (cv h B),X,.aj P,K,j1,.aj ((A.filterMap (cg g)).map CT.v),j.1,j.2.1,j.2.2,.a,.a]) (λC A=>B.aL=A++C) CT.v (λA x=>A++[x]) rfl (.u (.g (.H rfl) rfl) .j) rfl rfl λq C A j F=>by
  have D:=D q (by rw[F];exact iI _ (.head _))
  exact .mk (j0:=(.h q.v,j.2.1,j.2.2)) (j1:=(.h q.v,.h (nv (g q.f)),.h (nv (g q.la)))) rfl (.u (.s (.at rfl (.g (.H rfl) rfl) D.1) (.at rfl (.g (.H rfl) rfl) D.2.1) rfl rfl:Ex (k+2) [.h (cv h B),X,.aj P,K,j1,.aj ((A.filterMap (cg g)).map CT.v),.h q.v,j.2.1,j.2.2,.a,.a] (.n true [7,8] [(false,(.at 2 none (.a 3 1 [.r 6]))),(false,(.at 2 none (.a 3 2 [.r 6])))]) _) (.u (.z (b:=decide (Int.ofNat (g q.f)<Int.ofNat (g q.la))) (.I (.H rfl) (.H rfl) rfl) (by
   rw[List.filterMap_append,List.map_append,List.filterMap_cons];unfold cg;cases decide (Int.ofNat (g q.f)<Int.ofNat (g q.la))
   ·rw[show ∀l:List AV,l++List.map CT.v _=l from List.append_nil];exact .j
   ·exact .u (.I rfl (.new (.u (.g (.H rfl) rfl) (.u (.H rfl) (.u (.H rfl) (.u (.at rfl (.g (.H rfl) rfl) D.2.2) (.u (.g (.H rfl) rfl) .j))))) (xE _ _ _ _ _ _)) (by rw[cz];exact xi (az (List.length_filterMap_le _ _) (az (by rw[F,dc];exact eN _ _) w:A.length<=100)))) .j):Ex (k+2) [.h (cv h B),X,.aj P,K,j1,.aj ((A.filterMap (cg g)).map CT.v),.h q.v,.h (nv (g q.f)),.h (nv (g q.la)),.a,.a] (.d (.I (.r 7) [.lt] [.r 8]) [.I 5 none (.K (.new 1) [] [.a 3 0 [.r 6],.r 7,.r 8,.at 2 none (.a 3 3 [.r 6]),.a 3 4 [.r 6]])] []) [.h (cv h B),X,.aj P,K,j1,.aj (((A++[q]).filterMap (cg g)).map CT.v),.h q.v,.h (nv (g q.f)),.h (nv (g q.la)),.a,.a]) .j)) rfl (by rw[iC];exact F)
 obtain⟨j,E,e⟩:=E;rw[List.append_nil]at e;rw[<-e]at E;exact⟨j,E⟩
def lj(k)(h)(w:Jy B xs):aa GP (k+3) 37 [.h (cv h B),.h (.aj (xs.map ov))]= .oK (.h (cv h (dS B xs)),[]):=by
 obtain⟨A,G⟩:=DB k (cv h B) w.E;have C:Ex (k+2) [.h (cv h B),.h (.aj (xs.map ov)),.aj ((tf xs xs.length).map nv),.aj ((kp xs).map RD.v),A,.a,.a,.a,.a,.a,.a] (bk 37 2) _ :=.I rfl (.O rfl) (by rw[cz,tf,cz,List.length_range];exact xi w.E)
 rw[(by
  rw[cz,<-(by unfold fN;rw[List.take_length]:fN xs xs.length=(kp xs).length)];unfold tf
  rw[List.range_succ,List.map_append,List.map_append];rfl:(tf xs xs.length).map nv++[nv ((kp xs).map RD.v).length]=(tf xs (xs.length+1)).map nv)]at C
 obtain⟨j,F⟩:=Dz k h B (.h (.aj (xs.map ov))) (.h (.aj (((kp xs).map (rt (fN xs))).map RD.v))) A ((tf xs (xs.length+1)).map nv) (fN xs) w.g λq m=>⟨lk (Nat.lt_succ_of_le (w.aL q m).1),lk (Nat.lt_succ_of_le (w.aL q m).2.1),lk (Nat.lt_succ_of_le (w.aL q m).2.2)⟩;exact aO rfl rfl (.u (s:=bk 37 0) rfl (.u G (.u C (.u (.q rfl (.h (DA k (.h (cv h B)) (.h (.aj (xs.map ov))) A _ (kp xs) (fN xs) λr m D=>⟨(w.ag r (iR.mp m) D).1,lk (Nat.lt_succ_of_le (w.ag r (iR.mp m) D).2)⟩) rfl)) (.u (.f (.op .j rfl) rfl) (.u F (.i (.u (.H rfl) (.u (.H rfl) (.a rfl (.u (.X (j:=SV.a) (λE=>[.h (cv h B),.h (.aj (xs.map ov)),.aj ((tf xs (xs.length+1)).map nv),.h (.aj (((kp xs).map (rt (fN xs))).map RD.v)),A,.h (.aj ((B.aL.filterMap (cg (fN xs))).map CT.v)),j.1,j.2.1,j.2.2,.a,E]) nv nv (fN xs) (.u (.g (.H rfl) rfl) .j) rfl (λz=>rfl) λs m j=>⟨_,rfl,.at rfl (.H rfl) (lk (Nat.lt_succ_of_le (w.aB s m)))⟩:Ev (k+2) [.h (cv h B),.h (.aj (xs.map ov)),.aj ((tf xs (xs.length+1)).map nv),.h (.aj (((kp xs).map (rt (fN xs))).map RD.v)),A,.h (.aj ((B.aL.filterMap (cg (fN xs))).map CT.v)),j.1,j.2.1,j.2.2,.a,.a] (.B (.at 2 none (.r 10)) [10] false .h [.a 4 7 [.r 0]] []) (.aj ((B.aB.map (fN xs)).map nv))) (.u (.g (.H rfl) rfl) .j))))) rfl (y_ k h B _ _ _ _)))))))) rfl
def fJ(h:aH S (some r)=true){P:Tx->Prop}(A:∀o∈S,P o):P r.op:=by
 exact lu h λo m e=>(beq_iff_eq.mp e▸A o m)
def Sr(r y:RD):Prop:=r=y\/CG r/\CG y/\r.l=y.l
def Gd.e(h:Gd n r)(A:dB r=true):CG r:=⟨.inr ⟨A,_,(h.1 A).1.1⟩,(h.1 A).2.1,(h.1 A).2.2,fJ A λz m=>.tail _ (.tail _ m)⟩
def tO(h:dB r=true):aH [c5] (some r)=false:=fJ (P:=λo=>([c5].any λy=>y==o)=false) h (by decide+kernel)
def Sr.al(h:Sr r y)(k:Al r):Al y:=h.elim (λe=>e▸k) λe=>.inr e.2.1
def Sr.ln(h:Sr r y):r.l=y.l:=h.elim (λe=>e▸rfl) λe=>e.2.2
def K7(g)(x):(rt g x).l=x.l:=by
 unfold rt;cases dB x<;>rfl
def Lv(xs:List (Option RD))(t:Nat):Prop:= ∃j y,t<=j/\xs[j]? =some (some y)
def j6(a b):kp (a++b)=kp a++kp b:=List.filterMap_append
def wi(xs)(t):fN xs t<=(kp xs).length:=by
 rw[(by
  unfold fN
  rw[<-dc,<-j6,List.take_append_drop]:(kp xs).length=fN xs t+(kp (xs.drop t)).length)];exact eN _ _
def wg(h:Lv xs t):fN xs t<(kp xs).length:=by
 obtain⟨j,y,B,A⟩:=h
 rw[(by
  unfold fN
  rw[<-dc,<-j6,List.take_append_drop]:(kp xs).length=fN xs t+(kp (xs.drop t)).length)]
 refine Nat.lt_add_of_pos_right (List.length_pos_of_mem (iR.mpr (fk (i:=j-t) ?_)) (a:=y));rw[List.getElem?_drop,Nat.add_sub_cancel' B];exact A
structure Sm(B B1:BD):Prop where
 le:B1.ag.length<=B.ag.length
 pt:B1.ag.length=B.ag.length->∀(i:Nat) r y,B.ag[i]? =some r->B1.ag[i]? =some y->Sr r y
 ln:∀y∈B1.ag,∃r∈B.ag,r.l=y.l
 cs:∀y∈B1.aL,∃r∈B.aL,r.s=y.s/\r.d=y.d
def Sr.trans(h:Sr a b)(k:Sr b c):Sr a c:=by
 rcases h with rfl |h
 ·exact k
 ·rcases k with rfl |k
  ·exact .inr h
  ·exact .inr ⟨h.1,k.2.1,h.2.2.trans k.2.2⟩
def Sm.trans(h:Sm A B)(k:Sm B C):Sm A C:=⟨az k.le h.le,λe i r y G N=>by
 have D:B.ag.length=A.ag.length:=Nat.le_antisymm h.le (e▸k.le);have I:=(mE.mp G).1;rw[<-D]at I;have H:=ij I
 exact(h.pt D i r _ G H).trans (k.pt (e.trans D.symm) i _ y H N),λy m=>by
 obtain⟨x,E,e⟩:=k.ln y m;obtain⟨r,F,D⟩:=h.ln x E
 exact⟨r,F,D.trans e⟩,λy m=>by
 refine bB λP L=>?_;obtain⟨x,E,e,O⟩:=k.cs y m;obtain⟨r,F,D,M⟩:=h.cs x E;refine L ?_
 exact⟨r,F,D.trans e,M.trans O⟩⟩
structure Fb(B:BD)(xs:List (Option RD)):Prop where
 E:xs.length=B.ag.length
 pt:∀(i:Nat) x,xs[i]? =some (some x)->Gd B.ag.length x/\∀r,B.ag[i]? =some r->Sr r x
 WD:∀x,some x∈xs->dB x=true->Lv xs (b9 x)
 Pm:∀s∈B.aB,Lv xs s
 Pn:∀q∈B.aL,fN xs q.f<fN xs q.la->Lv xs q.t
 last:∀y,(kp xs).getLast? =some y->aH (gS 5) (some y)=true
def Fb.mem(h:Fb B xs)(m:some x∈xs):Gd B.ag.length x:=by
 exact D0 m λi e=>((h.pt i x e).1)
def Fb.a(h:Fb B xs)(w:WF B):Jy B xs:=⟨h.E▸az w.E (by decide),az w.g (by decide),λr m A=>⟨((h.mem m).1 A).1.1,h.E▸fj ((h.mem m).1 A).1.2⟩,λq m=>h.E▸⟨(w.aL q m).1,(w.aL q m).2.1,fj (w.aL q m).2.2⟩,λs m=>h.E▸fj (w.aB s m)⟩
def vC(xs):(kp xs).length<=xs.length:=List.length_filterMap_le _ _
def DW(h:(kp xs).length=xs.length):(kp xs).map some=xs:=by
 induction xs with
 |nil=>rfl
 |cons x l A=>induction x using aF with
  |none=>exact absurd (show l.length+1<=l.length from az (Nat.le_of_eq h.symm) (vC l)) (Nat.not_succ_le_self _)
  |some r=>exact congrArg (some r:: ·) (A (Nat.succ.inj h))
def Fb.wf(h:Fb B xs)(w:WF B):WF (dS B xs)/\Sm B (dS B xs):=by
 have E:(dS B xs).ag.length=(kp xs).length:=cz _
 have N:∀r,some r∈xs->Gd (kp xs).length (rt (fN xs) r)/\(dB r=true->CG (rt (fN xs) r)):=λr m=>by
  have g:=h.mem m;cases hj:dB r
  ·rw[(by unfold rt;rw[hj];rfl:rt (fN xs) r=r)];exact⟨⟨λe=>absurd (hj.symm.trans e) fO,g.2⟩,λe=>absurd e fO⟩
  ·rw[(by unfold rt;rw[hj];rfl:rt (fN xs) r={r with a:=nv (fN xs (b9 r))})];have P:Gd (kp xs).length {r with a:=nv (fN xs (b9 r))}:=⟨λz=>⟨⟨rfl,wg (h.WD r m hj)⟩,(g.1 hj).2⟩,λe=>absurd ((tO hj).symm.trans e) fO⟩;exact⟨P,λz=>P.e hj⟩
 refine⟨⟨E▸az (vC xs) (h.E▸w.E),λr m=>?_,λr e=>?_,λq m=>?_,λs m=>?_,az (List.length_filterMap_le _ _) w.g,(cz _).symm▸w.qL,λr m=>?_⟩,⟨E▸h.E▸vC xs,λe i r y C O=>?_,λy m=>?_,λy m=>?_⟩⟩
 ·refine bZ m λx D A=>?_;obtain rfl:=A;rw[E];exact(N x (iR.mp D)).1
 ·rw[show(dS B xs).ag=(kp xs).map (rt (fN xs))from rfl,List.getLast?_map]at e;refine pK e λy H A=>?_;obtain rfl:=A;unfold rt;cases dB y<;>exact(h.last y H)
 ·obtain⟨L,I,e⟩:=List.mem_filterMap.mp m;rw[E];unfold cg at e;cases hd:decide (Int.ofNat (fN xs L.f)<Int.ofNat (fN xs L.la))
  ·rw[hd]at e;cases e
  ·rw[hd]at e;cases e;exact⟨wi _ _,wi _ _,wg (h.Pn L I (Int.ofNat_lt.mp (of_decide_eq_true hd)))⟩
 ·refine bZ m λt Q A=>?_;obtain rfl:=A;rw[E];exact wg (h.Pm t Q)
 ·refine bZ m λx D A=>?_;obtain rfl:=A;refine D0 (iR.mp D) λi F=>?_;have G:=(mE.mp F).1;rw[h.E]at G;have C:=ij G;have g:=((h.pt i x F).2 _ C).al (w.al _ (fk C));cases hj:dB x
  ·rw[(by unfold rt;rw[hj];rfl:rt (fN xs) x=x)];exact g
  ·exact .inr ((N x (iR.mp D)).2 hj)
 ·rw[E,<-h.E]at e;rw[show(dS B xs).ag=(kp xs).map (rt (fN xs))from rfl,di]at O;refine pK O λx H A=>?_;obtain rfl:=A
  have M:xs[i]? =some (some x):=by
   rw[<-DW e,di,H];rfl
  have g:=(h.pt i x M).2 r C;cases hj:dB x
  ·rw[(by unfold rt;rw[hj];rfl:rt (fN xs) x=x)];exact g
  ·refine g.trans (.inr ⟨(h.pt i x M).1.e hj,(N x (fk M)).2 hj,(K7 _ x).symm⟩)
 ·refine bZ m λx D A=>?_;obtain rfl:=A;refine D0 (iR.mp D) λi F=>?_;have G:=(mE.mp F).1;rw[h.E]at G;have C:=ij G;exact⟨_,fk C,((h.pt i x F).2 _ C).ln.trans (K7 _ x).symm⟩
 ·obtain⟨q,I,e⟩:=List.mem_filterMap.mp m;unfold cg at e;cases hd:decide (Int.ofNat (fN xs q.f)<Int.ofNat (fN xs q.la))
  ·rw[hd]at e;cases e
  ·rw[hd]at e;cases e;exact⟨q,I,rfl,rfl⟩
def SS:List (List Tx):=[gS 4,gS 5,gS 9,gS 10,gS 11,[dQ],[fX],[dK],[c5],[bc],[bM]]
def ri(o:Tx):Tx:=bif o==fR then jd else fR
noncomputable def zh:AV->Bool
 |.s .r=>false
 |.s (.u b)=>b
 |_ =>true
def jB(h:RD)(a:AV):Bool:=zh a==(h.op==fR)
structure TP(T:RD->RD)(lm:Int->Int):Prop where
 g:∀S∈SS,∀r,aH S (some (T r))=aH S (some r)
 a:∀r,dB r=true->(T r).a=r.a
 E:∀r t,dB r=true->T {r with a:=nv t}={T r with a:=nv t}
 l:∀r,(T r).l=lm r.l
 S6:∀t l,T ⟨bc,nv t,.r,.r,l⟩=⟨bc,nv t,.r,.r,lm l⟩
 S5:∀l,T ⟨bM,.r,.r,.r,l⟩=⟨bM,.r,.r,.r,lm l⟩
 S4:∀l,T ⟨dQ,.r,.r,.r,l⟩=⟨dQ,.r,.r,.r,lm l⟩
 ri:∀r t,aH (gS 11) (some r)=true->T ⟨ri r.op,nv t,.r,.r,r.l⟩=⟨ri (T r).op,nv t,.r,.r,lm r.l⟩
 tk:∀h r,aH (gS 11) (some h)=true->aH [c5] (some r)=true->r.a∈dP->jB (T h) (T r).a=jB h r.a
 gd:∀n r,Al r->Gd n r->Gd n (T r)
 al:∀r,Al r->Al (T r)
 e:∀r,CG r->(T r).a=r.a/\(T r).b= .r/\(T r).c= .r
 q:∀r y,CG r->CG y->((T r).op==(T y).op)=(r.op==y.op)
noncomputable def BT(T:RD->RD)(f:Tx->Tx)(B:BD):BD:=⟨B.ag.map T,B.aL.map λq=>{q with s:=f q.s},B.aB⟩
section
variable {T:RD->RD}{lm:Int->Int}(tp:TP T lm)(f:Tx->Tx)
include tp
def TP.is(h:S∈SS)(x):aH S (x.map T)=aH S x:=by
 cases x
 ·rfl
 ·exact tp.g S h _
def TP.j(r:RD):dB (T r)=dB r:=tp.g _ (.head _) r
def TP.b9(h:dB r=true):b9 (T r)=b9 r:=by unfold Mq.b9;rw[tp.a r h]
def TP.rt(g)(r):rt g (T r)=T (rt g r):=by
 unfold Mq.rt;rw[tp.j];cases h:dB r
 ·rfl
 ·rw[tp.b9 h];exact(tp.E r _ h).symm
omit tp in
def LP(xs):kp (xs.map (Option.map T))=(kp xs).map T:=by
 unfold kp;rw[List.filterMap_map,List.map_filterMap];rfl
omit tp in
theorem MN(xs):fN (xs.map (Option.map T))=fN xs:=funext λt=>by
 unfold fN;rw[<-List.map_take,LP,cz]
def TP.G(B)(xs):dS (BT T f B) (xs.map (Option.map T))=BT T f (dS B xs):=by
 unfold dS BT;rw[MN,LP,cH,cH,List.filterMap_map,List.map_filterMap];rw[show Mq.rt (fN xs)∘T=T∘Mq.rt (fN xs)from funext λr=>tp.rt _ r]
 rw[show cg (fN xs)∘(λq:CT=>{q with s:=f q.s})=λx=>Option.map (λq:CT=>{q with s:=f q.s}) (cg (fN xs) x)from funext λq=>by
  show cg (fN xs) _=_;unfold cg
  cases decide (Int.ofNat (fN xs q.f)<Int.ofNat (fN xs q.la))<;>rfl]
def TP.marks(B):bA (BT T f B)=bA B:=by
 unfold bA BT;rw[List.foldl_map,List.foldl_map,cz]
 rw[show(λx y=>FD x (T y))=FD from funext λx=>funext λr=>by
  unfold FD;rw[tp.j];cases h:dB r
  ·rfl
  ·rw[tp.b9 h]]
 rfl
def TP.wf(w:WF B):WF (BT T f B):=by
 have D:(BT T f B).ag.length=B.ag.length:=cz _;refine⟨D▸w.E,λr m=>?_,λr e=>?_,λq m=>?_,λs m=>D▸w.aB s m,(cz _).symm▸w.g,w.qL,λr m=>?_⟩
 ·refine bZ m λx C A=>?_;obtain rfl:=A;exact D▸tp.gd _ _ (w.al x C) (w.ag x C)
 ·rw[show(BT T f B).ag=B.ag.map T from rfl,List.getLast?_map]at e;refine pK e λy E A=>?_;obtain rfl:=A;exact(tp.g _ (.tail _ (.head _)) y).trans (w.last y E)
 ·refine bZ m λx C A=>?_;obtain rfl:=A;exact D▸w.aL x C
 ·refine bZ m λx C A=>?_;obtain rfl:=A;exact tp.al _ (w.al x C)
inductive gO(T:RD->RD)(f:Tx->Tx)(fn:Nat)(B:BD):Prop
 |mk (B1:BD) (wf:WF B1) (sm:Sm B B1) (r1:∀k h,aa GP (k+4) fn [.h (cv h B)]= .oK (.h (cv h B1),[])) (r2:∀k h,aa GP (k+4) fn [.h (cv h (BT T f B))]= .oK (.h (cv h (BT T f B1)),[]))
def TP.pass{out:BD->List (Option RD)}(A:∀B,WF B->∀k h,Jy B (out B)->aa GP (k+4) fn [.h (cv h B)]= .oK (.h (cv h (dS B (out B))),[]))(C:∀B,WF B->Fb B (out B))(eqv:∀B,WF B->out (BT T f B)=(out B).map (Option.map T))(w:WF B):gO T f fn B:=by
 have p:=C B w;refine⟨dS B (out B),(p.wf w).1,(p.wf w).2,λk h=>A B w k h (p.a w),λk h=>?_⟩;rw[<-tp.G f,<-eqv B w];exact A _ (tp.wf f w) k h ((C _ (tp.wf f w)).a (tp.wf f w))
end
def Pos(n i:Nat)(r:RD)(x:Option RD):Prop:=match x with
 |none=>i+1<n
 |some y=>Gd n y/\(i+1=n->aH (gS 5) (some y)=true)/\Sr r y
structure ik(B:BD)(xs:List (Option RD)):Prop where
 E:xs.length=B.ag.length
 pt:∀(i:Nat) r,B.ag[i]? =some r->Pos B.ag.length i r (xg xs i)
def Gm(h:p<xs.length)(i):xg (xs.set p v) i=if p=i then v else xg xs i:=by
 unfold xg;rw[List.getElem?_set,if_pos h]
 by_cases e:p=i
 ·rw[if_pos e,if_pos e];rfl
 ·rw[if_neg e,if_neg e]
def ik.set(h:ik B xs)(A:p<B.ag.length)(C:∀r,B.ag[p]? =some r->Pos B.ag.length p r v):ik B (xs.set p v):=⟨eI.trans h.E,λi r e=>by
 rw[Gm (h.E▸A)]
 by_cases c:p=i
 ·rw[if_pos c];subst c;exact C r e
 ·rw[if_neg c];exact h.pt i r e⟩
def ik.at(h:ik B xs)(C:p<B.ag.length)(e:xg xs p=some y):Gd B.ag.length y/\(p+1=B.ag.length->aH (gS 5) (some y)=true)/\∀r,B.ag[p]? =some r->Sr r y:=by
 have:∀r,B.ag[p]? =some r->Gd B.ag.length y/\(p+1=B.ag.length->aH (gS 5) (some y)=true)/\Sr r y:=λr A=>by
  have:=h.pt p r A;rw[e]at this;exact this
 have t:=this _ (ij C);exact⟨t.1,t.2.1,λr A=>(this r A).2.2⟩
def kS(h:xs[i]? =some (some x)):xg xs i=some x:=by unfold xg;rw[h];rfl
def C5(h:xg xs i=some x):xs[i]? =some (some x):=by
 unfold xg at h
 induction e:xs[i]? using aF with
 |none=>rw[e]at h;cases h
 |some y=>rw[e]at h;exact congrArg some h
def ik.a(h:ik B xs)(w:WF B):Fb B xs:=by
 have G:∀t,t<B.ag.length->∃j y,t<=j/\xs[j]? =some (some y)/\j+1=B.ag.length:=λt A=>by
  have E:B.ag.length-1+1=B.ag.length:=Nat.sub_add_cancel (Nat.zero_lt_of_lt A);have:=h.pt _ _ (ij (Nat.sub_lt (Nat.zero_lt_of_lt A) Nat.one_pos:B.ag.length-1<B.ag.length))
  induction e:xg xs (B.ag.length-1)using aF with
  |none=>rw[e]at this;exact absurd (show _+1<_ from this) (E▸Nat.lt_irrefl _)
  |some y=>exact⟨_,y,Nat.le_sub_one_of_lt A,C5 e,E⟩
 have D:∀t,t<B.ag.length->Lv xs t:=λt A=>(G t A).elim λj q=>q.elim λy q=>⟨j,y,q.1,q.2.1⟩;have C:∀(i:Nat) x,xs[i]? =some (some x)->Gd B.ag.length x/\(i+1=B.ag.length->aH (gS 5) (some x)=true)/\∀r,B.ag[i]? =some r->Sr r x:=λi x e=>h.at (h.E▸(mE.mp e).1) (kS e);refine⟨h.E,λi x e=>⟨(C i x e).1,(C i x e).2.2⟩,λx m I=>?_,λs m=>D s (w.aB s m),λq m u=>D _ (w.aL q m).2.2,λy e=>?_⟩
 ·exact D0 m λi e=>(D _ ((C i x e).1.1 I).1.2)
 ·induction hn:B.ag.length using dU with
  |zero=>rw[List.length_eq_zero_iff.mp (h.E.trans hn)]at e;cases e
  |succ m=>
   obtain⟨j,z,M,H,F⟩:=G 0 (hn▸Nat.succ_pos m)
   obtain⟨L,rfl⟩:=List.getLast?_eq_some_iff.mp (by
    rw[List.getLast?_eq_getElem?,h.E,<-F,Nat.add_sub_cancel];exact H:xs.getLast? =some (some z))
   rw[j6,show kp [some z]=[z]from rfl,List.getLast?_concat]at e;cases e;exact(C j _ H).2.1 F
def ik.init(w:WF B):ik B (B.ag.map some):=⟨cz _,λi r e=>by
 rw[(kS (by rw[di,e];rfl):xg (B.ag.map some) i=some r)]
 exact⟨w.ag r (fk e),λh=>w.last r (by rw[List.getLast?_eq_getElem?,<-h,Nat.add_sub_cancel];exact e),.inl rfl⟩⟩
def qj(m):∀k:Nat,d9 m (Int.ofNat k)=(List.range' k m).map nv:=by
 induction m with
 |zero=>exact λk=>rfl
 |succ m A=>exact λk=>congrArg (nv k:: ·) (A (k+1))
def mS(h:n<=100)(A:d<=2):bz .range [.m (Int.ofNat n-Int.ofNat d)]=some ((List.range (n-d)).map nv):=by
 show(if(Int.ofNat n-Int.ofNat d).natAbs<=10000 then some (d9 (Int.ofNat n-Int.ofNat d).toNat 0)else none)=_
 rw[if_pos (show(Int.ofNat n-Int.ofNat d).natAbs<=10000 from UN h A),show(Int.ofNat n-Int.ofNat d).toNat=n-d from Int.toNat_sub n d,show(0:Int)=Int.ofNat 0 from rfl,qj,List.range_eq_range']
noncomputable def k6(d:Nat)(st:BD->List (Option RD)->Nat->List (Option RD))(B:BD):List (Option RD):=(List.range (B.ag.length-d)).foldl (st B) (B.ag.map some)
def MZ(a b c q)(l)(v):aN [3] false v (a::b::c::q::l)= .oK (a::b::c::.h v::l):=by
 show(aV (a::b::c::q::l) 3 (.h v)).i _=_
 unfold aV;rw[if_pos (show 3<(a::b::c::q::l).length from gZ (by decide) (gY 4 l.length))];rfl
def jr{JT:Type}(u:JT->List SV)(j0)(w:WF B)(N:d<=2)(G:GP.fns fn=some (fd fn))(H:((1:Nat).ble (fd fn).2.1&&(fd fn).2.1.ble (1+(fd fn).2.2.1.length))=true)(Q:jq (fd fn).2.2.2.2 []=[])(P:Ex (k+3) (env0 fn [.h (cv h B)]) (bk fn 0) (.h (cv h B)::.aj ((B.ag.map some).map ov)::.h (.aj ((bA B).map bv))::.a::u j0))(h1:bk fn 1= .l [3] false .range [.m [.O 1 none,.d (.m (Int.ofNat d))]] body)(O:(fd fn).1=[bk fn 0,bk fn 1,.y (.h 37 [.r 0,.r 1])])(M:(fd fn).2.2.2.2=0)(I:∀xs p,ik B xs->p+d<B.ag.length->ik B (st B xs p))(L:∀xs p j,ik B xs->p+d<B.ag.length->∃fl j1,Xs (k+3) (.h (cv h B)::.aj (xs.map ov)::.h (.aj ((bA B).map bv))::.h (nv p)::u j) body (.oK (fl,.h (cv h B)::.aj ((st B xs p).map ov)::.h (.aj ((bA B).map bv))::.h (nv p)::u j1))/\A8 fl=true):aa GP (k+4) fn [.h (cv h B)]= .oK (.h (cv h (dS B (k6 d st B))),[])/\ik B (k6 d st B):=by
 have D:=Ex.loop (n:=k+3) (t:=bk fn 1) (j:=(SV.a,j0)) (s:=B.ag.map some) (l:=List.range (B.ag.length-d)) (λxs j=>.h (cv h B)::.aj (xs.map ov)::.h (.aj ((bA B).map bv))::j.1::u j.2) (λA xs=>ik B xs/\∀p∈A,p+d<B.ag.length) nv (st B) h1 (.u (.y (.O rfl) .d rfl) .j) (by rw[cz,cz];exact mS (az w.E (by decide)) N) ⟨.init w,λp m=>Nat.add_lt_of_lt_sub (List.mem_range.mp m)⟩ λp A xs j C=>by
  refine bB λR F=>?_;have E:=C.2 p (.head _);obtain⟨fl,j1,e,g⟩:=L xs p j.2 C.1 E;exact F (.mk (j0:=(.h (nv p),j.2)) (j1:=(.h (nv p),j1)) (MZ _ _ _ _ _ _) e g ⟨I xs p C.1 E,λp m=>C.2 p (.tail _ m)⟩)
 obtain⟨j1,D,q⟩:=D
 refine⟨aO (env1:=_) (fl:=.C (.h (cv h (dS B (k6 d st B))))) G H (by
  rw[O]
  exact .u P (.u D (.h (.u (.H rfl) (.a rfl .j)) (lj k h ((q.1.a w).a w))))) (by rw[M];rfl),q.1⟩
def ik.mid(h:ik B xs)(C:p<B.ag.length)(A:aH S (xg xs p)=true)(D:∀o∈S,((gS 5).any λy=>y==o)=false):p+1<B.ag.length:=by
 induction e:xg xs p using aF with
 |none=>rw[e]at A;cases A
 |some y=>
  rw[e]at A;rcases Nat.lt_or_eq_of_le C with h1 |h1
  ·exact h1
  ·exact absurd ((h.at C e).2.1 h1) (by rw[show aH (gS 5) (some y)=false from fJ A D];exact fO)
def ky(T)(xs)(i):xg (xs.map (Option.map T)) i=(xg xs i).map T:=by
 unfold xg;rw[di];cases xs[i]? <;>rfl
def GQ(w:WF B)(E:∀xs p,ik B xs->p+d<B.ag.length->ik B (st B xs p))(C:∀xs p,ik B xs->p+d<B.ag.length->st (BT T f B) (xs.map (Option.map T)) p=(st B xs p).map (Option.map T)):k6 d st (BT T f B)=(k6 d st B).map (Option.map T):=by
 unfold k6
 rw[show(BT T f B).ag.length=B.ag.length from cz _,<-(by
  intro l
  induction l with
  |nil=>exact λz z z=>rfl
  |cons p l D=>
   intro A xs h;rw[List.foldl_cons,List.foldl_cons,C xs p h (A p (.head _))]
   exact D (λp m=>A p (.tail _ m)) _ (E xs p h (A p (.head _))):∀(l:List Nat),(∀p∈l,p+d<B.ag.length)->∀xs,ik B xs->l.foldl (st (BT T f B)) (xs.map (Option.map T))=(l.foldl (st B) xs).map (Option.map T)) _ (λp m=>Nat.add_lt_of_lt_sub (List.mem_range.mp m)) _ (.init w)]
 show _=List.foldl _ ((B.ag.map some).map (Option.map T)) _;rw[cH];show List.foldl _ ((B.ag.map T).map some) _=_;rw[cH];rfl
structure qE(d fn:Nat)(st:BD->List (Option RD)->Nat->List (Option RD)):Prop where
 pos:∀B xs p,WF B->ik B xs->p+d<B.ag.length->ik B (st B xs p)
 run:∀B k h,WF B->aa GP (k+4) fn [.h (cv h B)]= .oK (.h (cv h (dS B (k6 d st B))),[])/\ik B (k6 d st B)
def TP.scan(tp:TP T lm)(f)(s:qE d fn st)(A:∀B xs p,WF B->ik B xs->p+d<B.ag.length->st (BT T f B) (xs.map (Option.map T)) p=(st B xs p).map (Option.map T))(w:WF B):gO T f fn B:=
 tp.pass f (out:=k6 d st) (λB w k h z=>(s.run B k h w).1) (λB w=>(s.run B 0 ⟨.r,.r,.r,.r,[]⟩ w).2.a w) (λB w=>GQ w (λxs p=>s.pos B xs p w) λxs p=>A B xs p w) w
def lC(l:List RD):hZ GP .b [.aj (l.map RD.v)]=some (.aj ((l.map some).map ov)):=by rw[cH];rfl
def mQ(B:BD)(p:Nat):Bool:=(bA B).getD p false
def jY(h:p<=B.ag.length):((bA B).map bv)[p]? =some (bv (mQ B p)):=BQ (by rw[vB];exact Nat.lt_succ_of_le h)
def TP.m(tp:TP T lm)(f)(B)(p):mQ (BT T f B) p=mQ B p:=by unfold mQ;rw[tp.marks]
def zx(B:BD)(xs:List (Option RD))(p:Nat):List (Option RD):=bif aH (gS 9) (xg xs p)&&(aH [dQ] (xg xs (p+1))&& !(mQ B (p+1)))then(xs.set p none).set (p+1) none else xs
def OJ:qE 1 42 zx:=by
 have D:∀B A p,WF B->ik B A->p+1<B.ag.length->ik B (zx B A p):=λB A p z h C=>by
  unfold zx;cases e:aH (gS 9) (xg A p)&&(aH [dQ] (xg A (p+1))&& !(mQ B (p+1)))
  ·exact h
  ·have H:=(jo.mp (jo.mp e).2).1;exact(h.set (v:=none) (Nat.lt_of_succ_lt C) λz z=>C).set (v:=none) C λz z=>h.mid C H (by decide+kernel)
 refine⟨D,λB k h w=>jr (JT:=Unit) (λz=>[]) () w (by decide) rfl rfl rfl (.g (.g (.g (.H rfl) rfl) (lC _)) (.K (.u (.H rfl) .j) (jA _ h w)) rfl rfl) rfl rfl rfl (λA p=>D B A p w) λA p j G C=>?_⟩;have F:A.length=_ :=G.E
 have E:Ev (k+3) [.h (cv h B),.aj (A.map ov),.h (.aj ((bA B).map bv)),.h (nv p)] (.and [.h 34 [.at 1 none (.r 3),.M 9],.h 34 [.at 1 none (.p [.r 3,.i 1]),.u [.t dQ]],.o [.x [.r 2,.p [.r 3,.i 1]]]]) (bv (aH (gS 9) (xg A p)&&(aH [dQ] (xg A (p+1))&& !(mQ B (p+1))))):=
  .U (.and (.nh (.Z rfl (.H rfl) (F▸Nat.lt_of_succ_lt C)) (.V rfl)) λz=>.and (.nh (.Z rfl (.G (.H rfl)) (F▸C)) .va) λz=>.dI (.not (.Q (.H rfl) (.G (.H rfl)) (jY (fj C)))))
 unfold zx;cases e:aH (gS 9) (xg A p)&&(aH [dQ] (xg A (p+1))&& !(mQ B (p+1)))
 ·rw[e]at E;exact⟨_,(),.u (.z E .j) .j,rfl⟩
 ·rw[e]at E;exact⟨_,(),.u (.z E (.u (.u (enc:=ov) none none .d .d rfl (.H rfl) (F▸Nat.lt_of_succ_lt C) (.G (.H rfl)) (F▸C)) .j)) .j,rfl⟩
def TP.v(tp:TP T lm)(f)(w:WF B):gO T f 42 B:=tp.scan f OJ (λB A p z z z=>by
 unfold zx;rw[ky,ky,tp.m,tp.is (by decide+kernel),tp.is (by decide+kernel)];cases aH (gS 9) (xg A p)&&(aH [dQ] (xg A (p+1))&& !(mQ B (p+1)))
 ·rfl
 ·show _=List.map _ ((A.set p none).set (p+1) none)
  rw[List.map_set,List.map_set];rfl) w
def MX(B:BD)(xs:List (Option RD))(p:Nat):Bool:=aH [fX] (xg xs p)&&(aH (gS 10) (xg xs (p+1))&&aH [dQ] (xg xs (p+2)))
def zw(B:BD)(xs:List (Option RD))(p:Nat):List (Option RD):=bif MX B xs p&&(!(mQ B (p+1))&& !(mQ B (p+2)))then(xs.set p none).set (p+2) none else xs
def OI:qE 2 43 zw:=by
 have E:∀B A p,WF B->ik B A->p+2<B.ag.length->ik B (zw B A p):=λB A p z h C=>by
  unfold zw;cases e:MX B A p&&(!(mQ B (p+1))&& !(mQ B (p+2)))
  ·exact h
  ·have L:=(jo.mp (jo.mp (jo.mp e).1).2).2;exact(h.set (v:=none) (eV (eN _ _) C) λz z=>Nat.lt_of_succ_lt C).set (v:=none) C λz z=>h.mid C L (by decide+kernel)
 refine⟨E,λB k h w=>jr (JT:=Unit) (λz=>[]) () w (by decide) rfl rfl rfl (.g (.g (.g (.H rfl) rfl) (lC _)) (.K (.u (.H rfl) .j) (jA _ h w)) rfl rfl) rfl rfl rfl (λA p=>E B A p w) λA p j I C=>?_⟩;have F:A.length=_ :=I.E;have H:p<A.length:=F▸eV (eN _ _) C
 have D:Ev (k+3) [.h (cv h B),.aj (A.map ov),.h (.aj ((bA B).map bv)),.h (nv p)] (.and [.h 34 [.at 1 none (.r 3),.u [.t fX]],.h 34 [.at 1 none (.p [.r 3,.i 1]),.M 10],.h 34 [.at 1 none (.p [.r 3,.i 2]),.u [.t dQ]]]) (bv (MX B A p)):=
  .U (.and (.nh (.Z rfl (.H rfl) H) .va) λz=>.and (.nh (.Z rfl (.G (.H rfl)) (F▸Nat.lt_of_succ_lt C)) (.V rfl)) λz=>.dI (.nh (.Z rfl (.G (.H rfl)) (F▸C)) .va))
 have G:Ev (k+3) [.h (cv h B),.aj (A.map ov),.h (.aj ((bA B).map bv)),.h (nv p)] (.and [.o [.x [.r 2,.p [.r 3,.i 1]]],.o [.x [.r 2,.p [.r 3,.i 2]]]]) (bv (!(mQ B (p+1))&& !(mQ B (p+2)))):=
  .U (.and (.not (.Q (.H rfl) (.G (.H rfl)) (jY (fj (Nat.lt_of_succ_lt C))))) λz=>.dI (.not (.Q (.H rfl) (.G (.H rfl)) (jY (fj C)))))
 unfold zw;cases e:MX B A p
 ·rw[e]at D;exact⟨_,(),.u (.z D .j) .j,rfl⟩
 ·rw[e]at D;cases e1: !(mQ B (p+1))&& !(mQ B (p+2))
  ·rw[e1]at G;exact⟨_,(),.u (.z D (.u (.z G .j) .j)) .j,rfl⟩
  ·rw[e1]at G;exact⟨_,(),.u (.z D (.u (.z G (.u (.u (enc:=ov) none none .d .d rfl (.H rfl) H (.G (.H rfl)) (F▸C)) .j)) .j)) .j,rfl⟩
def TP.w(tp:TP T lm)(f)(w:WF B):gO T f 43 B:=tp.scan f OI (λB A p z z z=>by
 unfold zw MX;rw[ky,ky,ky,tp.m,tp.m,tp.is (by decide+kernel),tp.is (by decide+kernel),tp.is (by decide+kernel)];cases aH [fX] (xg A p)&&(aH (gS 10) (xg A (p+1))&&aH [dQ] (xg A (p+2)))&&(!(mQ B (p+1))&& !(mQ B (p+2)))
 ·rfl
 ·show _=List.map _ ((A.set p none).set (p+2) none)
  rw[List.map_set,List.map_set];rfl) w
def zt(B:BD)(xs:List (Option RD))(p:Nat):List (Option RD):=bif !(aH [dK] (xg xs (p+1))) || mQ B (p+1)then xs else bif aH [dK] (xg xs p)then(xs.set p none).set (p+1) none else bif aH [fX] (xg xs p)then xs.set (p+1) none else xs
def OF:qE 1 48 zt:=by
 have F:∀B A p,WF B->ik B A->p+1<B.ag.length->ik B (zt B A p):=λB A p z h C=>by
  unfold zt;cases e:aH [dK] (xg A (p+1))
  ·exact h
  ·cases mQ B (p+1)
   ·have m:=h.mid C e (by decide+kernel);cases aH [dK] (xg A p)
    ·cases aH [fX] (xg A p)
     ·exact h
     ·exact h.set (v:=none) C λz z=>m
    ·exact(h.set (v:=none) (Nat.lt_of_succ_lt C) λz z=>C).set (v:=none) C λz z=>m
   ·exact h
 refine⟨F,λB k h w=>jr (JT:=Unit) (λz=>[]) () w (by decide) rfl rfl rfl (.g (.g (.g (.H rfl) rfl) (lC _)) (.K (.u (.H rfl) .j) (jA _ h w)) rfl rfl) rfl rfl rfl (λA p=>F B A p w) λA p j N C=>?_⟩;have I:A.length=_ :=N.E;have M:p<A.length:=I▸Nat.lt_of_succ_lt C;have H:p+1<A.length:=I▸C
 have D:Ev (k+3) [.h (cv h B),.aj (A.map ov),.h (.aj ((bA B).map bv)),.h (nv p)] (.or [.o [.h 34 [.at 1 none (.p [.r 3,.i 1]),.u [.t dK]]],.x [.r 2,.p [.r 3,.i 1]]]) (bv (!(aH [dK] (xg A (p+1))) || mQ B (p+1))):=
  .Co (.or (.not (.nh (.Z rfl (.G (.H rfl)) H) .va)) λz=>.dI (.Q (.H rfl) (.G (.H rfl)) (jY (fj C))))
 have L:∀t,Ev (k+3) [.h (cv h B),.aj (A.map ov),.h (.aj ((bA B).map bv)),.h (nv p)] (.h 34 [.at 1 none (.r 3),.u [.d (.j t)]]) (bv (aH [t] (xg A p))):=λt=>.nh (.Z rfl (.H rfl) M) .va;unfold zt
 cases e: !(aH [dK] (xg A (p+1))) || mQ B (p+1)
 ·rw[e]at D;have E:=L dK;cases e1:aH [dK] (xg A p)
  ·rw[e1]at E;have G:=L fX;cases e2:aH [fX] (xg A p)
   ·rw[e2]at G;exact⟨_,(),.u (.z D .j) (.u (.z E (.u (.z G .j) .j)) .j),rfl⟩
   ·rw[e2]at G;exact⟨_,(),.u (.z D .j) (.u (.z E (.u (.z G (.u (.lQ (enc:=ov) none .d rfl (.G (.H rfl)) H) .j)) .j)) .j),rfl⟩
  ·rw[e1]at E;exact⟨_,(),.u (.z D .j) (.u (.z E (.u (.u (enc:=ov) none none .d .d rfl (.H rfl) M (.G (.H rfl)) H) .j)) .j),rfl⟩
 ·rw[e]at D;exact⟨_,(),.z D rfl .cont,rfl⟩
def TP.F(tp:TP T lm)(f)(w:WF B):gO T f 48 B:=tp.scan f OF (λB A p z z z=>by
 unfold zt;rw[ky,ky,tp.m,tp.is (by decide+kernel),tp.is (by decide+kernel),tp.is (by decide+kernel)]
 cases !(aH [dK] (xg A (p+1))) || mQ B (p+1)
 ·cases aH [dK] (xg A p)
  ·cases aH [fX] (xg A p)
   ·rfl
   ·show _=List.map _ (A.set (p+1) none);rw[List.map_set];rfl
  ·show _=List.map _ ((A.set p none).set (p+1) none);rw[List.map_set,List.map_set];rfl
 ·rfl) w
noncomputable def H5(a b:Nat):Bool:=Int.ofNat a==Int.ofNat b
def Bl(h:H5 a b=true):a=b:=Int.ofNat.inj (eq_of_beq h)
def Cm(x:Option RD):Nat:=x.elim 0 b9
def nR(x y:Option RD):Option RD:=x.bind λr=>y.map λb=>⟨ri r.op,nv (b9 b),.r,.r,r.l⟩
def pf(h:aH (gS 11) (some r)=true):dB r=true:=fJ (P:=λo=>((gS 4).any λy=>y==o)=true) h (by decide+kernel)
def pL(h:aH [bc] (some r)=true):dB r=true:=fJ (P:=λo=>((gS 4).any λy=>y==o)=true) h (by decide+kernel)
def F5(B:BD)(xs:List (Option RD))(p:Nat):Bool:=aH (gS 11) (xg xs p)&&(aH [bc] (xg xs (p+1))&&(H5 (Cm (xg xs p)) (p+2)&& !(mQ B (p+1))))
def zu(B:BD)(xs:List (Option RD))(p:Nat):List (Option RD):=bif F5 B xs p then(xs.set p (nR (xg xs p) (xg xs (p+1)))).set (p+1) none else xs
def dh(h:aH S x=true):∃r,x=some r:=by
 cases x
 ·cases h
 ·exact⟨_,rfl⟩
def Gd.d(E:dB r=true)(C:b9 r<n)(A:r.a=nv (b9 r))(B:r.b= .r)(D:r.c= .r):Gd n r:=⟨λz=>⟨⟨A,C⟩,B,D⟩,λe=>absurd ((tO E).symm.trans e) fO⟩
def Fw(o)(a b c)(l):dB ⟨ri o,a,b,c,l⟩=true:=by
 unfold ri;cases o==fR<;>rfl
def OG:qE 1 46 zu:=by
 have L:∀B A p,WF B->ik B A->p+1<B.ag.length->ik B (zu B A p):=λB A p z h D=>by
  unfold zu;cases e:F5 B A p
  ·exact h
  ·refine d3 e λF C=>?_;refine d3 C λC M=>?_;refine d3 M λM z=>?_;obtain⟨r,E⟩:=dh F;obtain⟨b,H⟩:=dh C;rw[E]at F M;rw[H]at C;have I:=Nat.lt_of_succ_lt D;have P:=h.at I E;have S:=(P.1.1 (pf F)).1.2;rw[show b9 r=p+2 from Bl M]at S;have Q:Gd B.ag.length ⟨ri r.op,nv (b9 b),.r,.r,r.l⟩:=.d (Fw _ _ _ _ _) (((h.at D H).1.1 (pL C)).1.2) rfl rfl rfl;rw[E,H];exact(h.set (v:=some _) I λW X=>⟨Q,λq=>absurd (q▸D) (Nat.lt_irrefl _),(P.2.2 W X).trans (.inr ⟨P.1.e (pf F),Q.e (Fw _ _ _ _ _),rfl⟩)⟩).set (v:=none) D λz z=>S
 refine⟨L,λB k h w=>jr (JT:=SV×SV×SV) (λj=>[j.1,j.2.1,j.2.2]) (.a,.a,.a) w (by decide) rfl rfl rfl (.g (.g (.g (.H rfl) rfl) (lC _)) (.K (.u (.H rfl) .j) (jA _ h w)) rfl rfl) rfl rfl rfl (λA p=>L B A p w) λA p j O D=>?_⟩;have R:A.length=_ :=O.E;have I:p<A.length:=R▸Nat.lt_of_succ_lt D;have U:p+1<A.length:=R▸D;have N:Ex (k+3) [.h (cv h B),.aj (A.map ov),.h (.aj ((bA B).map bv)),.h (nv p),j.1,j.2.1,j.2.2] (.n true [4,5] [(false,(.at 1 none (.r 3))),(false,(.at 1 none (.p [.r 3,.i 1])))]) [.h (cv h B),.aj (A.map ov),.h (.aj ((bA B).map bv)),.h (nv p),.h (ov (xg A p)),.h (ov (xg A (p+1))),j.2.2]:=.s (.Z rfl (.H rfl) I) (.Z rfl (.G (.H rfl)) U) rfl rfl
 have G:Ev (k+3) [.h (cv h B),.aj (A.map ov),.h (.aj ((bA B).map bv)),.h (nv p),.h (ov (xg A p)),.h (ov (xg A (p+1))),j.2.2] (.and [.h 34 [.r 4,.M 11],.h 34 [.r 5,.u [.t bc]],.q (.a 2 1 [.r 4]) (.p [.r 3,.i 2]),.o [.x [.r 2,.p [.r 3,.i 1]]]]) (bv (F5 B A p)):=
  .U (.and (.nh (.H rfl) (.V rfl)) λe=>.and (.nh (.H rfl) .va) λz=>.and (by
   obtain⟨r,E⟩:=dh e;rw[E]at e|-
   exact .I (.g (.H rfl) (congrArg some ((O.at (Nat.lt_of_succ_lt D) E).1.1 (pf e)).1.1)) (.G (.H rfl)) rfl) λz=>.dI (.not (.Q (.H rfl) (.G (.H rfl)) (jY (fj D)))))
 unfold zu;cases e:F5 B A p
 ·rw[e]at G;exact⟨_,(_,_,j.2.2),.u N (.u (.z G .j) .j),rfl⟩
 ·rw[e]at G;refine bB λY V=>?_;refine d3 e λF C=>?_;refine d3 C λC z=>?_;obtain⟨r,E⟩:=dh F;obtain⟨b,H⟩:=dh C;refine V ?_;rw[E]at N G|-;rw[H]at C N G|-
  exact⟨_,(.h r.v,.h b.v,.h (.j (ri r.op))),.u N (.u (.z G (.u (.h (.L (b:=r.op==fR) (.I (.g (.H rfl) rfl) .d rfl) (by
   unfold ri
   cases r.op==fR<;>exact .d)) rfl:Ex (k+3) [.h (cv h B),.aj (A.map ov),.h (.aj ((bA B).map bv)),.h (nv p),.h r.v,.h b.v,j.2.2] (.h 6 false (.L (.q (.a 2 0 [.r 4]) (.t fR)) (.t jd) (.t fR))) [.h (cv h B),.aj (A.map ov),.h (.aj ((bA B).map bv)),.h (nv p),.h r.v,.h b.v,.h (.j (ri r.op))]) (.u (.u (enc:=ov) (some ⟨ri r.op,nv (b9 b),.r,.r,r.l⟩) none (.new (.u (.H rfl) (.u (.g (.H rfl) (show hZ GP (.A 2 1) [b.v]=some (nv (b9 b))from congrArg some (((O.at D H).1.1 (pL C)).1.1))) (.u .d (.u .d (.u (.g (.H rfl) rfl) .j))))) (k9 _ _ _ _ _ _):Ev (k+3) [.h (cv h B),.aj (A.map ov),.h (.aj ((bA B).map bv)),.h (nv p),.h r.v,.h b.v,.h (.j (ri r.op))] (.K (.new 0) [] [.r 6,.a 2 1 [.r 5],.d .r,.d .r,.a 2 4 [.r 4]]) (ov (some ⟨ri r.op,nv (b9 b),.r,.r,r.l⟩))) .d rfl (.H rfl) I (.G (.H rfl)) U) .j))) .j),rfl⟩
def TP.C(tp:TP T lm)(f)(w:WF B):gO T f 46 B:=tp.scan f OG (λB A p z H I=>by
 unfold zu
 rw[(by
  unfold F5;rw[ky,ky,tp.m,tp.is (by decide+kernel),tp.is (by decide+kernel)];cases e:aH (gS 11) (xg A p)
  ·rfl
  ·obtain⟨r,D⟩:=dh e;rw[D]at e|-
   rw[show Cm (Option.map T (some r))=Cm (some r)from tp.b9 (pf e)]:F5 (BT T f B) (A.map (Option.map T)) p=F5 B A p)]
 cases e:F5 B A p
 ·rfl
 ·refine bB λL G=>?_;refine d3 e λE C=>?_;refine d3 C λC z=>?_;obtain⟨r,D⟩:=dh E;obtain⟨b,F⟩:=dh C;rw[D]at E;rw[F]at C;refine G ?_;rw[ky,ky,D,F]
  show(List.set _ p (some (RD.mk (Mq.ri (T r).op) (nv (Mq.b9 (T b))) .r .r (T r).l))).set _ none=List.map _ ((A.set p (some ⟨Mq.ri r.op,nv (Mq.b9 b),.r,.r,r.l⟩)).set (p+1) none)
  rw[List.map_set,List.map_set,tp.b9 (pL C),tp.l,<-tp.ri r _ E];rfl) w
def Jl(t)(r):aH [t] (some r)=(r.op==t):=(Bool.or_false _).trans BEq.comm
def eqB(x y):d_ .eq (bv x) (bv y)=some (x==y):=by cases x<;>cases y<;>rfl
def Gx(k):∀a∈dP,aa GP (k+1) 35 [.h a]= .oK (.h (bv (zh a)),[]):=by
 unfold dP;refine cu.mpr ⟨?_,cu.mpr ⟨?_,cu.mpr ⟨?_,cu.mpr ⟨?_,cu.mpr ⟨?_,cu.mpr ⟨?_,cu.mpr ⟨?_,cu.mpr ⟨?_,gy _⟩⟩⟩⟩⟩⟩⟩⟩<;>kernel_rfl
def Ev.MD{r:RD}(h:Ev n ah e r.v):Ev n ah (.q (.a 2 0 [e]) (.d (.j t))) (bv (r.op==t)):=.I (.g h rfl) .d rfl
def Ev.tk{h:RD}(C:Ev (n+2) ah e h.v)(B:Ev (n+2) ah D a)(A:a∈dP):Ev (n+2) ah (.h 44 [e,D]) (bv (jB h a)):=by
 exact .K (.u C (.u B .j)) (aO rfl rfl (.C (.I (.K (.u (.H rfl) .j) (Gx n a A)) (.MD (r:=h) (.H rfl)) (eqB _ _))) rfl)
def WF.mid(w:WF B)(e:B.ag[i]? =some q)(h:aH S (some q)=true)(A:∀o∈S,((gS 5).any λy=>y==o)=false):i+1<B.ag.length:=(ik.init w).mid (mE.mp e).1 (by rw[kS (x:=q) (by rw[di,e];rfl)];exact h) A
def ig(B:BD)(r b:RD):Option (Option RD):=bif aH (gS 11) (some b)then some (bif jB b r.a then some ⟨bc,nv (b9 b),.r,.r,b.l⟩else none)else bif aH [bc] (some b)then(B.ag[b9 b]?).bind λq=>bif aH (gS 11) (some q)then some (some {b with a:=nv (bif jB q r.a then b9 q else b9 b+1)})else none else none
def BM(B:BD)(xs:List (Option RD))(p:Nat):Bool:= !aH [c5] (xg xs p) || ((xg xs (p+1)).isNone || mQ B (p+1))
def zv(B:BD)(xs:List (Option RD))(p:Nat):List (Option RD):=bif BM B xs p then xs else(xg xs p).elim xs λr=>(xg xs (p+1)).elim xs λb=>(ig B r b).elim xs λv=>(xs.set p none).set (p+1) v
def wz(h:BM B xs p=false):kO (λr b=>xg xs p=some r) (λr b=>xg xs (p+1)=some b) (λr b=>aH [c5] (some r)=true):=by
 unfold BM at h;refine bB λF E=>?_;obtain⟨C,A⟩:=Bool.or_eq_false_iff.mp h;have C:aH [c5] (xg xs p)=true:=Bool.not_eq_eq_eq_not.mp C;obtain⟨r,D⟩:=dh C;obtain⟨A,-⟩:=Bool.or_eq_false_iff.mp A;refine E ?_
 induction hb:xg xs (p+1)using aF with
 |none=>rw[hb]at A;cases A
 |some b=>exact⟨r,b,D,rfl,D▸C⟩
def E6(w:WF B)(h:ik B xs)(I:p+1<B.ag.length)(G:xg xs (p+1)=some b)(e:ig B r b=some v):∀E,B.ag[p+1]? =some E->Pos B.ag.length (p+1) E v:=λE F=>by
 have A:=h.at I G;unfold ig at e;cases e1:aH (gS 11) (some b)
 ·rw[e1]at e;cases e2:aH [bc] (some b)
  ·rw[e2]at e;cases e
  ·rw[e2]at e;refine dg (show(B.ag[b9 b]?).bind _=_ from e) λq H e=>?_;cases e3:aH (gS 11) (some q)
   ·rw[e3]at e;cases e
   ·rw[e3]at e;cases e;have D:=pL e2
    have C:Gd B.ag.length {b with a:=nv (bif jB q r.a then b9 q else b9 b+1)}:=.d D (by
     cases jB q r.a
     ·exact w.mid H e3 (by decide+kernel)
     ·exact((w.ag q (fk H)).1 (pf e3)).1.2:(bif jB q r.a then b9 q else b9 b+1)<B.ag.length) rfl (A.1.1 D).2.1 (A.1.1 D).2.2
    exact⟨C,λz=>fJ (P:=λo=>((gS 5).any λy=>y==o)=true) e2 (by decide+kernel),(A.2.2 E F).trans (.inr ⟨A.1.e D,C.e D,rfl⟩)⟩
 ·rw[e1]at e;cases e;have L:=h.mid I (G▸e1) (by decide+kernel);cases jB b r.a
  ·exact L
  ·have C:Gd B.ag.length ⟨bc,nv (b9 b),.r,.r,b.l⟩:=.d rfl (A.1.1 (pf e1)).1.2 rfl rfl rfl;exact⟨C,λz=>rfl,(A.2.2 E F).trans (.inr ⟨A.1.e (pf e1),C.e rfl,rfl⟩)⟩
def Ft(B)(w:WF B)(xs)(p)(h:ik B xs)(A:p+1<B.ag.length):ik B (zv B xs p):=by
 unfold zv;cases e:BM B xs p
 ·obtain⟨r,b,D,C,-⟩:=wz e;rw[D,C];show ik B ((ig B r b).elim xs _)
  induction ea:ig B r b using aF with
  |none=>exact h
  |some v=>exact(h.set (v:=none) (Nat.lt_of_succ_lt A) λz z=>A).set A (E6 w h A C ea)
 ·exact h
def OH:qE 1 45 zv:=by
 refine⟨λB A p w h E=>Ft B w A p h E,λB k h w=>jr (JT:=SV×SV×SV×SV×SV) (λj=>[j.1,j.2.1,j.2.2.1,j.2.2.2.1,j.2.2.2.2]) (.a,.a,.a,.a,.a) w (by decide) rfl rfl rfl (.g (.g (.g (.H rfl) rfl) (lC _)) (.K (.u (.H rfl) .j) (jA _ h w)) rfl rfl) rfl rfl rfl (Ft B w) λA p j L E=>?_⟩;have R:A.length=_ :=L.E;have P:p<A.length:=R▸Nat.lt_of_succ_lt E;have X:p+1<A.length:=R▸E;have V:p+1<(A.set p none).length:=eI.symm▸X;have F:∀x y,xg A p=x->xg A (p+1)=y->Ex (k+3) [.h (cv h B),.aj (A.map ov),.h (.aj ((bA B).map bv)),.h (nv p),j.1,j.2.1,j.2.2.1,j.2.2.2.1,j.2.2.2.2] (.n true [4,5] [(false,(.at 1 none (.r 3))),(false,(.at 1 none (.p [.r 3,.i 1])))]) [.h (cv h B),.aj (A.map ov),.h (.aj ((bA B).map bv)),.h (nv p),.h (ov x),.h (ov y),j.2.2.1,j.2.2.2.1,j.2.2.2.2]:=λx y e Q=>e▸Q▸.s (.Z rfl (.H rfl) P) (.Z rfl (.G (.H rfl)) X) rfl rfl
 have C:∀x y,xg A p=x->xg A (p+1)=y->Ev (k+3) [.h (cv h B),.aj (A.map ov),.h (.aj ((bA B).map bv)),.h (nv p),.h (ov x),.h (ov y),j.2.2.1,j.2.2.2.1,j.2.2.2.2] (.or [.o [.h 34 [.r 4,.u [.t c5]]],.I (.r 5) [.is] [.d .r],.x [.r 2,.p [.r 3,.i 1]]]) (bv (BM B A p)):=λx y e Q=>by
  unfold BM;rw[e,Q];exact .Co (.or (.not (.nh (.H rfl) .va)) λJ=>.or (.I (.H rfl) .d (by cases y<;>rfl)) λJ=>.dI (.Q (.H rfl) (.G (.H rfl)) (jY (fj E))))
 unfold zv;cases e:BM B A p
 ·refine bB λc Y=>?_;obtain⟨r,b,H,I,U⟩:=wz e;have F:=F _ _ H I;have C:=C _ _ H I;rw[e]at C;have W:=L.at (Nat.lt_of_succ_lt E) H;have S:=L.at E I;refine Y ?_;rw[H,I];show ∃M m,Xs _ _ _ (.oK (M,.h (cv h B)::.aj (((ig B r b).elim A λv=>(A.set p none).set (p+1) v).map ov)::_))/\_;unfold ig;have G:Ev (k+3) [.h (cv h B),.aj (A.map ov),.h (.aj ((bA B).map bv)),.h (nv p),.h r.v,.h b.v,j.2.2.1,j.2.2.2.1,j.2.2.2.2] (.w (.a 2 0 [.r 5]) (.M 11)) (bv (aH (gS 11) (some b))):=.Y (.H rfl) (.V rfl);have Z:Ev (k+3) [.h (cv h B),.aj (A.map ov),.h (.aj ((bA B).map bv)),.h (nv p),.h r.v,.h b.v,j.2.2.1,j.2.2.2.1,j.2.2.2.2] (.a 2 1 [.r 4]) r.a:=.g (.H rfl) rfl;cases e1:aH (gS 11) (some b)
  ·rw[e1]at G;rw[cond_false,Jl];cases e2:b.op==bc
   ·have D:Ev (k+3) [.h (cv h B),.aj (A.map ov),.h (.aj ((bA B).map bv)),.h (nv p),.h r.v,.h b.v,j.2.2.1,j.2.2.2.1,j.2.2.2.2] (.and [.q (.a 2 0 [.r 5]) (.t bc),.w (.a 2 0 [.x [.a 4 4 [.r 0],.a 2 1 [.r 5]]]) (.M 11)]) (bv ((b.op==bc)&&false)):=.U (.and (.MD (r:=b) (.H rfl)) λq=>absurd (e2.symm.trans q) fO);rw[e2]at D;exact⟨_,(_,_,j.2.2.1,j.2.2.2.1,j.2.2.2.2),.u F (.u (.z C .j) (.u (.z G (.u (.z D .j) .j)) .j)),rfl⟩
   ·have O:=(S.1.1 (pL ((Jl _ _).trans e2:aH [bc] (some b)=true))).1;obtain⟨q,N⟩:∃q,B.ag[b9 b]? =some q:=⟨_,ij O.2⟩;rw[N];have aq:∀x y z,Ev (k+3) [.h (cv h B),.aj (A.map ov),.h (.aj ((bA B).map bv)),.h (nv p),.h r.v,.h b.v,x,y,z] (.x [.a 4 4 [.r 0],.a 2 1 [.r 5]]) q.v:=λx y z=>.Q (.g (.H rfl) rfl) (.g (.H rfl) (show hZ GP (.A 2 1) [b.v]=some (nv (b9 b))from congrArg some O.1)) (by rw[di,N];rfl);have D:Ev (k+3) [.h (cv h B),.aj (A.map ov),.h (.aj ((bA B).map bv)),.h (nv p),.h r.v,.h b.v,j.2.2.1,j.2.2.2.1,j.2.2.2.2] (.and [.q (.a 2 0 [.r 5]) (.t bc),.w (.a 2 0 [.x [.a 4 4 [.r 0],.a 2 1 [.r 5]]]) (.M 11)]) (bv ((b.op==bc)&&aH (gS 11) (some q))):=.U (.and (.MD (r:=b) (.H rfl)) λJ=>.dI (.Y (aq _ _ _) (.V rfl)));rw[e2]at D;show ∃M m,Xs _ _ _ (.oK (M,.h (cv h B)::.aj (((bif aH (gS 11) (some q)then some (some {b with a:=nv (bif jB q r.a then b9 q else b9 b+1)})else none).elim A λv=>(A.set p none).set (p+1) v).map ov)::_))/\_;cases e3:aH (gS 11) (some q)
    ·rw[e3]at D;exact⟨_,(_,_,j.2.2.1,j.2.2.2.1,j.2.2.2.2),.u F (.u (.z C .j) (.u (.z G (.u (.z D .j) .j)) .j)),rfl⟩
    ·rw[e3]at D
     exact⟨_,(_,_,j.2.2.1,.h q.v,_),.u F (.u (.z C .j) (.u (.z G (.u (.z D (.u (.h (aq _ _ _) rfl) (.u (.h (.L (.tk (h:=q) (.H rfl) (.g (v:=r.v) (.H rfl) rfl) (W.1.2 U)) (by
      cases jB q r.a
      ·exact .G (.g (v:=b.v) (.H rfl) (congrArg some O.1))
      ·exact .g (v:=q.v) (.H rfl) (congrArg some (((w.ag q (fk N)).1 (pf e3)).1.1)))) rfl:Ex (k+3) [.h (cv h B),.aj (A.map ov),.h (.aj ((bA B).map bv)),.h (nv p),.h r.v,.h b.v,j.2.2.1,.h q.v,j.2.2.2.2] (.h 8 false (.L (.h 44 [.r 7,.a 2 1 [.r 4]]) (.a 2 1 [.r 7]) (.p [.a 2 1 [.r 5],.i 1]))) [.h (cv h B),.aj (A.map ov),.h (.aj ((bA B).map bv)),.h (nv p),.h r.v,.h b.v,j.2.2.1,.h q.v,.h (nv (bif jB q r.a then b9 q else b9 b+1))]) (.u (.lQ (enc:=ov) none .d rfl (.H rfl) P) (.u (.lQ (enc:=ov) (some {b with a:=nv (bif jB q r.a then b9 q else b9 b+1)}) (.P (.u (.H rfl) (.u (.H rfl) .j)) rfl (y9 (k+1) b _)) rfl (.G (.H rfl)) V) .j))))) .j)) .j)),rfl⟩
  ·rw[e1]at G
   exact⟨_,(_,_,_,j.2.2.2.1,j.2.2.2.2),.u F (.u (.z C .j) (.u (.z G (.u (.h (.tk (h:=b) (.H rfl) Z (W.1.2 U)) rfl:Ex (k+3) [.h (cv h B),.aj (A.map ov),.h (.aj ((bA B).map bv)),.h (nv p),.h r.v,.h b.v,j.2.2.1,j.2.2.2.1,j.2.2.2.2] (.h 6 false (.h 44 [.r 5,.a 2 1 [.r 4]])) _) (.u (.lQ (enc:=ov) none .d rfl (.H rfl) P) (.u (.lQ (enc:=ov) _ (.L (.H rfl) (by
    cases jB b r.a
    ·exact .d
    ·exact .new (.u .d (.u (.g (.H rfl) (show hZ GP (.A 2 1) [b.v]=some (nv (b9 b))from congrArg some (S.1.1 (pf e1)).1.1)) (.u .d (.u .d (.u (.g (.H rfl) rfl) .j))))) (k9 _ _ _ _ _ _)):Ev (k+3) [.h (cv h B),.aj ((A.set p none).map ov),.h (.aj ((bA B).map bv)),.h (nv p),.h r.v,.h b.v,.h (bv (jB b r.a)),j.2.2.2.1,j.2.2.2.2] (.L (.r 6) (.K (.new 0) [] [.t bc,.a 2 1 [.r 5],.d .r,.d .r,.a 2 4 [.r 5]]) (.d .r)) (ov (bif jB b r.a then some ⟨bc,nv (b9 b),.r,.r,b.l⟩else none))) rfl (.G (.H rfl)) V) .j)))) .j)),rfl⟩
 ·have C:=C _ _ rfl rfl;rw[e]at C;exact⟨_,(_,_,j.2.2.1,j.2.2.2.1,j.2.2.2.2),.u (F _ _ rfl rfl) (.z C rfl .cont),rfl⟩
def TP.ig(tp:TP T lm)(f)(w:WF B)(C:aH [c5] (some r)=true)(A:r.a∈dP):ig (BT T f B) (T r) (T b)=(ig B r b).map (Option.map T):=by
 unfold Mq.ig;rw[tp.g (gS 11) (by decide+kernel),tp.g [bc] (by decide+kernel)];cases e1:aH (gS 11) (some b)
 ·cases e2:aH [bc] (some b)
  ·rfl
  ·rw[tp.b9 (pL e2),show(BT T f B).ag[Mq.b9 b]? =(B.ag[Mq.b9 b]?).map T from di ..]
   induction eq:B.ag[Mq.b9 b]? using aF with
   |none=>rfl
   |some q=>
    show(bif aH (gS 11) (some (T q))then _ else _)=Option.map _ (bif aH (gS 11) (some q)then _ else _)
    rw[tp.g (gS 11) (by decide+kernel)];cases e3:aH (gS 11) (some q)
    ·rfl
    ·rw[tp.tk q r e3 C A,tp.b9 (pf e3)];exact congrArg (λz=>some (some z)) (tp.E b _ (pL e2)).symm
 ·rw[tp.tk b r e1 C A,tp.b9 (pf e1),tp.l];cases jB b r.a
  ·rfl
  ·exact congrArg (λz=>some (some z)) (tp.S6 _ _).symm
def TP.z(tp:TP T lm)(f)(w:WF B):gO T f 45 B:=tp.scan f OH (λB A p w G H=>by
 unfold zv
 rw[(by
  unfold BM;rw[ky,ky,tp.m,tp.is (by decide+kernel)]
  cases xg A (p+1)<;>rfl:BM (BT T f B) (A.map (Option.map T)) p=BM B A p)]
 cases e:BM B A p
 ·refine bB λI E=>?_;obtain⟨r,b,D,F,C⟩:=wz e;refine E ?_;rw[ky,ky,D,F]
  show(Mq.ig (BT T f B) (T r) (T b)).elim _ _=List.map _ ((Mq.ig B r b).elim _ _)
  rw[tp.ig f w C ((G.at (Nat.lt_of_succ_lt H) D).1.2 C)]
  induction Mq.ig B r b using aF with
  |none=>rfl
  |some v=>
   show _=List.map _ ((A.set p none).set (p+1) v);rw[List.map_set,List.map_set];rfl
 ·rfl) w
def vI{A B:Type}(g:A->B)(l:List A):∀a:List B,l.foldl (λa x=>a++[g x]) a=a++l.map g:=by
 induction l with
 |nil=>exact λa=>(List.append_nil a).symm
 |cons x l C=>exact λa=>(C _).trans (iC ..)
def Ex.build{C D JT:Type}(enc:C->AV)(g:C->D)(E:List D->JT->List SV){n:Nat}{t:IS}{tg:List Nat}{tup:Bool}{k:IK}{es:List IE}{body:List IS}{vs:List AV}{l:List C}{j:JT}(I:t= .l tg tup k es body)(h:mW n (E [] j) es vs)(M:bz k vs=some (l.map enc))(F:l.length<=100)(L:∀b∈l,∀ys j,ys.length<10000->Turn n E (aN tg tup (enc b) (E ys j)) body ys (ys++[g b]) True):∃j1,Ex n (E [] j) t (E (l.map g) j1):=by
 obtain⟨j1,e,-⟩:=Ex.loop E (λA ys=>ys.length+A.length<=100/\∀b∈A,b∈l) enc (λa x=>a++[g x]) I h M ⟨by rw[List.length_nil,Nat.zero_add];exact F,λz m=>m⟩ λb A ys j B=>by
  obtain⟨N,H,G,-⟩:=L b (B.2 b (.head _)) ys j (eV (az (eN _ _) B.1) (by decide));exact .mk N H G ⟨by rw[dc,Nat.add_assoc,Nat.add_comm [g b].length];exact B.1,λx m=>B.2 x (.tail _ m)⟩
 rw[vI]at e;exact⟨j1,e⟩
noncomputable def eL(k:Nat):List RD->List (Nat×RD)
 |[]=>[]
 |r::l=>(k,r)::eL (k+1) l
def ep(p:Nat×RD):AV:=.tup [nv p.1,p.2.v]
def uo(l):∀k:Nat,i8 (Int.ofNat k) (l.map RD.v)=(eL k l).map ep:=by
 induction l with
 |nil=>exact λz=>rfl
 |cons r l A=>exact λk=>congrArg (ep (k,r):: ·) (A (k+1))
def Bs(l):∀k,(eL k l).length=l.length:=by
 induction l with
 |nil=>exact λz=>rfl
 |cons r l A=>exact λk=>congrArg (· +1) (A (k+1))
def Bt(l):∀(k i:Nat),(eL k l)[i]? =(l[i]?).map λr=>(k+i,r):=by
 induction l with
 |nil=>exact λz z=>rfl
 |cons r l A=>exact λk i=>match i with
  |0=>rfl
  |i+1=>(A (k+1) i).trans (by rw[Nat.add_assoc,Nat.add_comm 1 i];rfl)
def QG(T)(l):∀k,eL k (l.map T)=(eL k l).map λp=>(p.1,T p.2):=by
 induction l with
 |nil=>exact λz=>rfl
 |cons r l A=>exact λk=>congrArg ((k,T r):: ·) (A (k+1))
def Br(h:p∈eL 0 l):l[p.1]? =some p.2:=by
 refine D0 h λi e=>?_;rw[Bt]at e;refine pK e λr A B=>?_;cases B;rw[Nat.zero_add];exact A
def sh(p:Nat×RD):Option RD:=bif dB p.2&&H5 (b9 p.2) (p.1+1)then(bif aH (gS 11) (some p.2)then some ⟨dQ,.r,.r,.r,p.2.l⟩else none)else some p.2
def wZ(B:BD):List (Option RD):=(eL 0 B.ag).map sh
def K4(B)(w:WF B)(k)(h)(E:Jy B (wZ B)):aa GP (k+4) 47 [.h (cv h B)]= .oK (.h (cv h (dS B (wZ B))),[]):=by
 have C:=Ex.build (n:=k+3) (t:=bk 47 1) (j:=(SV.a,SV.a)) ep sh (λA j=>[.h (cv h B),.aj (A.map ov),j.1,j.2]) rfl (.u (.g (.H rfl) rfl) .j) (congrArg some (uo B.ag 0)) (by rw[Bs];exact az w.E (by decide)) λp m A j D=>by
  exact .mk (j0:=(.h (nv p.1),.h p.2.v)) (j1:=(.h (nv p.1),.h p.2.v)) rfl (by rw[show(A++[sh p]).map ov=A.map ov++[ov (sh p)]from List.map_append ..];exact(.u (.z (.U (.and (.Y (.H rfl) (.V rfl)) λe=>.dI (.I (.g (v:=p.2.v) (.H rfl) (congrArg some ((w.ag p.2 (fk (Br m))).1 e).1.1)) (.G (.H rfl)) rfl)):Ev (k+3) [.h (cv h B),.aj (A.map ov),.h (nv p.1),.h p.2.v] (.and [.w (.a 2 0 [.r 3]) (.M 4),.q (.a 2 1 [.r 3]) (.p [.r 2,.i 1])]) (bv (dB p.2&&H5 (b9 p.2) (p.1+1)))) (by
   unfold sh;cases dB p.2&&H5 (b9 p.2) (p.1+1)
   ·exact .u (.I rfl (.H rfl) (by rw[cz];exact D)) .j
   ·refine .u (.I rfl (v:=ov (bif aH (gS 11) (some p.2)then some ⟨dQ,.r,.r,.r,p.2.l⟩else none)) (.L (.Y (.H rfl) (.V rfl)) ?_) (by rw[cz];exact D)) .j;cases aH (gS 11) (some p.2)
    ·exact .d
    ·exact .new (.u .d (.u .d (.u .d (.u .d (.u (.g (.H rfl) rfl) .j))))) (k9 _ _ _ _ _ _))) .j:Xs (k+3) [.h (cv h B),.aj (A.map ov),.h (nv p.1),.h p.2.v] [.d (.and [.w (.a 2 0 [.r 3]) (.M 4),.q (.a 2 1 [.r 3]) (.p [.r 2,.i 1])]) [.I 1 none (.L (.w (.a 2 0 [.r 3]) (.M 11)) (.K (.new 0) [] [.t dQ,.d .r,.d .r,.d .r,.a 2 4 [.r 3]]) (.d .r))] [.I 1 none (.r 3)]] (.oK (.a,[.h (cv h B),.aj (A.map ov++[ov (sh p)]),.h (nv p.1),.h p.2.v])))) rfl trivial
 obtain⟨F,C⟩:=C;exact aO rfl rfl (.u (.f (.op .j rfl) rfl) (.u C (.h (.u (.H rfl) (.a rfl .j)) (lj k h E)))) rfl
def DD(g)(A:∀(i:Nat) r,B.ag[i]? =some r->Pos B.ag.length i r (g (i,r))):ik B ((eL 0 B.ag).map g):=⟨by rw[cz,Bs],λi r e=>by
 unfold xg;rw[di,Bt,e,Nat.zero_add]
 exact A i r e⟩
def TP.D(tp:TP T lm)(f)(w:WF B):gO T f 47 B:=tp.pass f (out:=wZ) K4 (λB w=>(DD sh λi r e=>by
 have F:=(mE.mp e).1;have g:=w.ag r (fk e);have C:=(ik.init w).pt i r e;rw[kS (x:=r) (by rw[di,e];rfl)]at C;unfold sh;cases hc:dB r&&H5 (Mq.b9 r) (i+1)
 ·exact C
 ·refine d3 hc λD E=>?_;have A:=(g.1 D).1.2;rw[Bl E]at A;cases aH (gS 11) (some r)
  ·exact A
  ·exact⟨⟨λq=>absurd q fO,λq=>absurd q fO⟩,λq=>absurd (q▸A) (Nat.lt_irrefl _),.inr ⟨g.e D,⟨.inl rfl,rfl,rfl,.tail _ (.head _)⟩,rfl⟩⟩).a w) (λB w=>by
 unfold wZ;rw[show(BT T f B).ag=B.ag.map T from rfl,QG,cH,cH];refine List.map_congr_left λp m=>?_;show sh (p.1,T p.2)=(sh p).map T;unfold sh;rw[tp.j,tp.g (gS 11) (by decide+kernel)];cases hj:dB p.2
 ·rfl
 ·rw[tp.b9 hj];cases H5 (Mq.b9 p.2) (p.1+1)
  ·rfl
  ·cases aH (gS 11) (some p.2)
   ·rfl
   ·exact(congrArg some ((tp.S4 _).trans (by rw[tp.l]))).symm) w
noncomputable def Cs(B:BD):Nat->Nat->Option Nat
 |0,_ =>none
 |m+1,p=>bif aH [bc] B.ag[p]? then Cs B m (Cm B.ag[p]?)else some p
def rJ(B:BD)(p:Nat):Nat:=(Cs B B.ag.length p).getD p
def WF.jmp{B:BD}(w:WF B){p:Nat}{r:RD}(e:B.ag[p]? =some r)(h:dB r=true):r.a=nv (b9 r)/\b9 r<B.ag.length:=((w.ag r (fk e)).1 h).1
def H6{B:BD}(w:WF B)(m):∀p q,p<B.ag.length->Cs B m p=some q->q<B.ag.length:=by
 induction m with
 |zero=>exact λz z z e=>nomatch e
 |succ m D=>
  intro p q C e;have A:=ij C;replace e:(bif aH [bc] B.ag[p]? then Cs B m (Cm B.ag[p]?)else some p)=some q:=e;rw[A]at e;cases hj:aH [bc] (some B.ag[p])
  ·rw[hj]at e;cases e;exact C
  ·rw[hj]at e;exact D _ _ (w.jmp A (pL hj)).2 e
def Bm(w:WF B)(A:p<B.ag.length):rJ B p<B.ag.length:=by
 unfold rJ
 induction e:Cs B B.ag.length p using aF with
 |none=>exact A
 |some q=>exact H6 w _ p q A e
inductive EO(c p:SV)(r:aD (Fl×List SV)):Option Nat->Prop
 |C {g:Nat} {env1:List SV} (h:r= .oK (.C (.h (nv g)),env1)):EO c p r (some g)
 |nx {x y:SV} (h:r= .oK (.a,[c,p,x,y])):EO c p r none
def uJ:List IS:=match bk 38 1 with
 |.l _ _ _ _ b=>b
 |_ =>[]
def Eu(k)(h){B:BD}(w:WF B)(p)(l):∀q j,q<B.ag.length->EO (.h (cv h B)) p (forLoop (aN [3] false) (λah=>aG GP (aa GP k) uJ ah) l [.h (cv h B),p,.h (nv q),j]) (Cs B l.length q):=by
 induction l with
 |nil=>exact λq j z=>.nx rfl
 |cons v l E=>
  intro q j F;have C:=ij F;have aq:Ev k [.h (cv h B),p,.h (nv q),.h v] (.x [.a 4 4 [.r 0],.r 2]) (B.ag[q]).v:=.Q (.g (.H rfl) rfl) (.H rfl) (by rw[di,C];rfl);have A:Ev k [.h (cv h B),p,.h (nv q),.h v] (.I (.a 2 0 [.x [.a 4 4 [.r 0],.r 2]]) [.ne] [.t bc]) (bv (!aH [bc] (some B.ag[q]))):=.I (.g aq rfl) .d (by rw[Jl];rfl);show EO _ _ ((aG GP (aa GP k) uJ [.h (cv h B),p,.h (nv q),.h v]).i _) (bif aH [bc] B.ag[q]? then Cs B l.length (Cm B.ag[q]?)else some q);rw[C];cases hj:aH [bc] (some B.ag[q])
  ·rw[hj]at A;rw[show aG GP (aa GP k) uJ _=_ from(.z A rfl (.C (.H rfl)):Xs k [.h (cv h B),p,.h (nv q),.h v] uJ _)];exact .C rfl
  ·rw[hj]at A;have D:=w.jmp C (pL hj);rw[show aG GP (aa GP k) uJ _=_ from(.u (.z A .j) (.u (.h (.g aq (show hZ GP (.A 2 1) [(B.ag[q]).v]=some (nv (b9 B.ag[q]))from congrArg some D.1)) rfl) .j):Xs k [.h (cv h B),p,.h (nv q),.h v] uJ _)];exact E _ _ D.2
def Ev.eo(w:WF B)(H:p<B.ag.length):aa GP (k+1) 38 [.h (cv h B),.h (nv p)]= .oK (.h (nv (rJ B p)),[]):=by
 have e:=Eu k h w (.h (nv p)) ((List.range B.ag.length).map nv) p .a H;rw[cz,List.length_range]at e
 have G:∀D A,forLoop (aN [3] false) (λE=>aG GP (aa GP k) uJ E) ((List.range B.ag.length).map nv) [.h (cv h B),.h (nv p),.h (nv p),.a]= .oK (D,A)->eG GP (aa GP k) (bk 38 1) [.h (cv h B),.h (nv p),.h (nv p),.a]= .oK (D,A):=λD A e=>by
  show(bu GP (aa GP k) [.n [.a 4 4 [.r 0]]] [.h (cv h B),.h (nv p),.h (nv p),.a]).i (λb=>(aD.d (bz .range b.1)).i λC=>forLoop (aN [3] false) (λE=>aG GP (aa GP k) uJ E) C b.2)=_
  rw[show bu GP (aa GP k) _ _=_ from(.u (by rw[show Int.ofNat B.ag.length-Int.ofNat 0=Int.ofNat (B.ag.map RD.v).length by rw[cz];exact Int.sub_zero _];exact .E (.g (.H rfl) rfl)) .j:mW k [.h (cv h B),.h (nv p),.h (nv p),.a] [.n [.a 4 4 [.r 0]]] [.m (Int.ofNat B.ag.length-Int.ofNat 0)])]
  show(aD.d (bz .range [.m (Int.ofNat B.ag.length-Int.ofNat 0)])).i _=_
  rw[mS (az w.E (by decide)) (by decide)];exact e
 have F:Ex k (env0 38 [.h (cv h B),.h (nv p)]) (bk 38 0) [.h (cv h B),.h (nv p),.h (nv p),.a]:=.h (.H rfl) rfl;unfold rJ;generalize Cs B B.ag.length p=o at e
 cases e with
 |C e=>exact aO rfl rfl (.u F (by
  show(eG GP (aa GP k) (bk 38 1) _).i _=_
  rw[G _ _ e];rfl)) rfl
 |nx e=>exact aO rfl rfl (.u F (.u (G _ _ e) (.C (.H rfl)))) rfl
def th(B:BD)(r:RD):Option RD:=some (bif dB r then(bif (r.op==bc)&&aH [bM] B.ag[rJ B (b9 r)]? then⟨bM,.r,.r,.r,r.l⟩else{r with a:=nv (rJ B (b9 r))})else r)
def tu(B:BD):List (Option RD):=B.ag.map (th B)
def K6(B)(w:WF B)(k)(h)(L:Jy B (tu B)):aa GP (k+4) 39 [.h (cv h B)]= .oK (.h (cv h (dS B (tu B))),[]):=by
 have F:=Ex.build (n:=k+3) (t:=bk 39 1) (j:=(SV.a,SV.a)) RD.v (th B) (λA j=>[.h (cv h B),.aj (A.map ov),j.1,j.2]) rfl (.u (.g (.H rfl) rfl) .j) rfl (az w.E (by decide)) λr m A j C=>by
  have M:=w.ag r m;rw[show A++[th B r]=A++[th B r]from rfl];have C:(A.map ov).length<10000:=(cz _).symm▸C;have D:Ev (k+3) [.h (cv h B),.aj (A.map ov),.h r.v,j.2] (.I (.a 2 0 [.r 2]) [.a] [.M 4]) (bv (!dB r)):=.Aq (.H rfl) (.V rfl);have I:∀x:Option RD,(A++[x]).map ov=A.map ov++[ov x]:=λx=>List.map_append ..;unfold th;cases hj:dB r
  ·rw[hj]at D;exact .mk (j0:=(.h r.v,j.2)) (j1:=(.h r.v,j.2)) rfl (by rw[I];exact .z D rfl (.u (.I rfl (.H rfl) C) .cont)) rfl trivial
  ·rw[hj]at D;have E:=(M.1 hj).1;obtain⟨q,H⟩:∃q,B.ag[rJ B (b9 r)]? =some q:=⟨_,ij (Bm w E.2)⟩;rw[H];refine .mk (j0:=(.h r.v,j.2)) (j1:=(.h r.v,.h (nv (rJ B (b9 r))))) rfl (.u (.z D .j) (.u (.h (.K (.u (.H rfl) (.u (.g (.H rfl) (show hZ GP (.A 2 1) [r.v]=some (nv (b9 r))from congrArg some E.1)) .j)) (Ev.eo w E.2)) rfl:Ex (k+3) [.h (cv h B),.aj (A.map ov),.h r.v,j.2] (.h 3 false (.h 38 [.r 0,.a 2 1 [.r 2]])) _) (.u (.z (.U (.and (.MD (r:=r) (.H rfl)) λz=>.dI (Jl bM q▸.MD (.Q (.g (.H rfl) rfl) (.H rfl) (by rw[di,H];rfl)))):Ev (k+3) [.h (cv h B),.aj (A.map ov),.h r.v,.h (nv (rJ B (b9 r)))] (.and [.q (.a 2 0 [.r 2]) (.t bc),.q (.a 2 0 [.x [.a 4 4 [.r 0],.r 3]]) (.t bM)]) (bv ((r.op==bc)&&aH [bM] (some q)))) ?_) .j))) rfl trivial;rw[I];show Xs _ _ _ (.oK (.a,[_,.aj (A.map ov++[RD.v (bif (r.op==bc)&&aH [bM] (some q)then _ else _)]),_,_]))
   cases(r.op==bc)&&aH [bM] (some q)
   ·exact .u (.I rfl (.P (.u (.H rfl) (.u (.H rfl) .j)) rfl (y9 (k+1) r _)) C) .j
   ·exact .u (.I rfl (.new (.u .d (.u .d (.u .d (.u .d (.u (.g (.H rfl) rfl) .j))))) (k9 _ _ _ _ _ _)) C) .j
 obtain⟨G,F⟩:=F;exact aO rfl rfl (.u (.f (.op .j rfl) rfl) (.u F (.h (.u (.H rfl) (.a rfl .j)) (lj k h L)))) rfl
def z8(g)(A:∀(i:Nat) r,B.ag[i]? =some r->Pos B.ag.length i r (g r)):ik B (B.ag.map g):=⟨cz _,λi r e=>by
 unfold xg;rw[di,e]
 exact A i r e⟩
def Lf(w:WF B):ik B (tu B):=z8 (th B) λi r e=>by
 have g:=w.ag r (fk e);have C:=(ik.init w).pt i r e;rw[kS (x:=r) (by rw[di,e];rfl)]at C;unfold th;cases hj:dB r
 ·exact C
 ·have A:=(g.1 hj)
  cases(r.op==bc)&&aH [bM] B.ag[rJ B (b9 r)]?
  ·have D:Gd B.ag.length {r with a:=nv (rJ B (b9 r))}:=.d hj (Bm w A.1.2) rfl A.2.1 A.2.2;exact⟨D,C.2.1,.inr ⟨g.e hj,D.e hj,rfl⟩⟩
  ·exact⟨⟨λq=>absurd q fO,λq=>absurd q fO⟩,λz=>rfl,.inr ⟨g.e hj,⟨.inl rfl,rfl,rfl,.head _⟩,rfl⟩⟩
def TP.rJ(tp:TP T lm)(f)(B)(p):rJ (BT T f B) p=rJ B p:=by
 unfold Mq.rJ
 rw[(λm=>by
  induction m with
  |zero=>exact λz=>rfl
  |succ m A=>
   intro p
   show(bif aH [bc] (BT T f B).ag[p]? then _ else _)=bif aH [bc] B.ag[p]? then _ else _
   rw[show(BT T f B).ag[p]? =(B.ag[p]?).map T from di ..,tp.is (by decide+kernel)];cases e:aH [bc] B.ag[p]?
   ·rfl
   ·obtain⟨r,C⟩:=dh e;rw[C]at e|-
    exact(A _).trans (by rw[show Cm (Option.map T (some r))=Cm (some r)from tp.b9 (pL e)];rfl):∀m p,Cs (BT T f B) m p=Cs B m p),show(BT T f B).ag.length=B.ag.length from cz _]
def TP.s(tp:TP T lm)(f)(w:WF B):gO T f 39 B:=tp.pass f (out:=tu) K6 (λB w=>(Lf w).a w) (λB w=>by
 unfold tu;rw[show(BT T f B).ag=B.ag.map T from rfl,cH,cH];refine List.map_congr_left λr m=>?_;show th (BT T f B) (T r)=some (T _);unfold th;rw[tp.j,<-Jl,tp.g [bc] (by decide+kernel),Jl];cases hj:dB r
 ·rfl
 ·rw[tp.b9 hj,tp.rJ,show(BT T f B).ag[Mq.rJ B (Mq.b9 r)]? =(B.ag[Mq.rJ B (Mq.b9 r)]?).map T from di ..,tp.is (by decide+kernel)]
  cases(r.op==bc)&&aH [bM] B.ag[Mq.rJ B (Mq.b9 r)]?
  ·exact(congrArg some (tp.E r _ hj)).symm
  ·exact(congrArg some ((tp.S5 _).trans (by rw[tp.l];rfl))).symm) w
noncomputable def we(q:CT)(p:Nat):Bool:=decide (Int.ofNat q.f<=Int.ofNat p)&&decide (Int.ofNat p<Int.ofNat q.la)
def nV(B:BD)(p:Nat):List Nat:=(bif aH (gS 4) B.ag[p]? then [Cm B.ag[p]?]else [])++((bif aH (gS 5) B.ag[p]? then []else [p+1])++(B.aL.filter (we · p)).map (·.t))
noncomputable def uY(B:BD):Nat->List Bool->List Nat->List Bool
 |0,fd,_ =>fd
 |m+1,fd,wt=>match wt.getLast? with
  |none=>fd
  |some p=>bif fd.getD p false then uY B m fd wt.dropLast else uY B m (fd.set p true) (wt.dropLast++nV B p)
theorem ta{u:List Bool}:uY B (m+1) u A=match A.getLast? with
 |none=>u
 |some p=>bif u.getD p false then uY B m u A.dropLast else uY B m (u.set p true) (A.dropLast++nV B p):=rfl
def TP.nV(tp:TP T lm)(f)(B)(p):nV (BT T f B) p=nV B p:=by
 unfold Mq.nV;rw[show(BT T f B).ag[p]? =(B.ag[p]?).map T from di ..,tp.is (by decide+kernel),tp.is (by decide+kernel),show(BT T f B).aL=B.aL.map _ from rfl,List.filter_map,cH]
 congr 1
 cases e:aH (gS 4) B.ag[p]?
 ·rfl
 ·obtain⟨r,A⟩:=dh e;rw[A]at e|-;exact congrArg (λz=>[z]) (tp.b9 e)
def TP.uY(tp:TP T lm)(f)(B)(m):uY (BT T f B) m=uY B m:=by
 induction m with
 |zero=>rfl
 |succ m A=>
  funext fd wt
  rw[ta,ta,A,show Mq.nV (BT T f B)=Mq.nV B from funext (tp.nV f B)]
def ve(w:WF B)(C:p<B.ag.length):∀s∈nV B p,s<B.ag.length:=λs m=>by
 have A:=ij C;unfold nV at m;rw[A]at m;rcases gM.mp m with m |m
 ·cases e:aH (gS 4) (some B.ag[p])
  ·rw[e]at m;cases m
  ·rw[e]at m;cases dN.mp m;exact(w.jmp A e).2
 ·rcases gM.mp m with m |m
  ·cases e:aH (gS 5) (some B.ag[p])
   ·rw[e]at m;cases dN.mp m;rcases Nat.lt_or_eq_of_le C with h |h
    ·exact h
    ·exact absurd (w.last B.ag[p] (by rw[List.getLast?_eq_getElem?,<-h];exact A)) (by rw[e];exact fO)
   ·rw[e]at m;cases m
  ·refine bZ m λq D E=>?_;obtain rfl:=E;exact(w.aL q (ic.mp D).1).2.2
structure RC(B:BD)(fd:List Bool)(wt:List Nat):Prop where
 E:fd.length=B.ag.length
 lt:∀p∈wt,p<B.ag.length
 st:∀s∈B.aB,fd.getD s false=true\/s∈wt
 cl:∀p,fd.getD p false=true->∀s∈nV B p,fd.getD s false=true\/s∈wt
def A9{fd:List Bool}(h:p<fd.length)(s):(fd.set p true).getD s false=(decide (p=s) || fd.getD s false):=by
 rw[kM,List.getElem?_set,kM,if_pos h]
 by_cases e:p=s
 ·rw[if_pos e,decide_eq_true e];rfl
 ·rw[if_neg e,decide_eq_false e];rfl
def Fe{A:List Nat}(e:A.getLast? =some p)(h:s∈A):s=p\/s∈A.dropLast:=by
 refine xb e λl Gi=>?_;obtain rfl:=Gi;rw[List.dropLast_concat];rcases gM.mp h with h |h
 ·exact .inr h
 ·exact .inl (dN.mp h)
def RC.skip{B:BD}{fd:List Bool}(h:RC B fd A)(e:A.getLast? =some p)(C:fd.getD p false=true):RC B fd A.dropLast:=by
 have k:∀s,fd.getD s false=true\/s∈A->fd.getD s false=true\/s∈A.dropLast:=λs q=>q.elim .inl λq=>(Fe e q).elim (λq=>.inl (q▸C)) .inr;exact⟨h.E,λp m=>h.lt p ((List.dropLast_sublist A).subset m),λs m=>k s (h.st s m),λp C s m=>k s (h.cl p C s m)⟩
def RC.go{B:BD}(w:WF B){fd:List Bool}{A:List Nat}(h:RC B fd A){p:Nat}(e:A.getLast? =some p):RC B (fd.set p true) (A.dropLast++nV B p):=by
 have D:=h.lt p (List.mem_of_getLast? e);have E:=A9 (h.E▸D:p<fd.length)
 have k:∀s,fd.getD s false=true\/s∈A->(fd.set p true).getD s false=true\/s∈A.dropLast++nV B p:=λs q=>by
  rw[E];rcases q with q |q
  ·exact .inl (by rw[q,Bool.or_true])
  ·rcases Fe e q with q |q
   ·exact .inl (by rw[decide_eq_true q.symm,Bool.true_or])
   ·exact .inr (pq _ q)
 refine⟨eI.trans h.E,λq m=>?_,λs m=>k s (h.st s m),λq C s m=>?_⟩
 ·rcases gM.mp m with m |m
  ·exact h.lt q ((List.dropLast_sublist A).subset m)
  ·exact ve w D q m
 ·rw[E]at C
  by_cases c:p=q
  ·subst c;exact .inr (iI _ m)
  ·rw[decide_eq_false c,Bool.false_or]at C;exact k s (h.cl q C s m)
noncomputable def ms(fd:List Bool)(A:List Nat):Nat:=A.length+6*(fd.filter (!·)).length
def CY(w:WF B)(p):(nV B p).length<=6:=by
 unfold nV;rw[dc,dc,cz]
 have C:∀(b:Bool) (l A:List Nat),l.length<=1->A.length<=1->(bif b then l else A).length<=1:=λb l A h D=>by cases b;exact D;exact h
 exact Nat.add_le_add (C _ [_] [] (fh 1) (da _)) (Nat.add_le_add (C _ [] [_] (da _) (fh 1)) (az (List.length_filter_le _ _) w.g))
def DJ{fd:List Bool}:∀{p:Nat},p<fd.length->fd.getD p false=false->(fd.filter (!·)).length=((fd.set p true).filter (!·)).length+1:=by
 induction fd with
 |nil=>exact λh=>absurd h (Nat.not_lt_zero _)
 |cons b l A=>exact λ{p} h e=>match p,h,e with
  |0,h,e=>by cases(show b=false from e);rfl
  |p+1,h,e=>by
   have:=A (Nat.lt_of_succ_lt_succ h) (show l.getD p false=false from e)
   induction b using aR
   ·exact congrArg (· +1) this
   ·exact this
def Ex.L(A:ah[y]? =some (.aj l))(B:l.getLast? =some w)(C:x.blt ah.length=true):Ex n ah (.h x false (.P y none)) ((ah.set y (.aj l.dropLast)).set x (.h w)):=by
 show(((aD.d (eY ah y none)).i _).i _).i _=_
 rw[fL A]
 show(((aD.d l.getLast?).i _).i _).i _=_
 rw[B]
 show(aV (iN ah y none l.dropLast) x (.h w)).i _=_
 rw[nJ A,cq (by rw[eI];exact C)];rfl
def Bw(k)(q)(p):aa GP (k+1) 3 [.h q.v,.h (nv p)]= .oK (.h (bv (we q p)),[]):=by
 exact aO rfl rfl (.C (by
  show(if decide (Int.ofNat q.f<=Int.ofNat p)=true then aD.oK (AV.u (decide (Int.ofNat p<Int.ofNat q.la)),[SV.h q.v,.h (nv p)])else .oK (.u false,[SV.h q.v,.h (nv p)]))=_
  unfold we
  cases decide (Int.ofNat q.f<=Int.ofNat p)<;>rfl:Ev k [.h q.v,.h (nv p)] (.I (.a 3 1 [.r 0]) [.le,.lt] [.r 1,.a 3 2 [.r 0]]) (bv (we q p)))) rfl
def DN{fd:List Bool}(e:A.getLast? =some p):ms fd A.dropLast<ms fd A:=by
 refine xb e λl Gi=>?_;obtain rfl:=Gi;unfold ms;rw[List.dropLast_concat,dc];exact Nat.add_lt_add_right (lH _) _
def Ls(w:WF B){fd:List Bool}(e:A.getLast? =some p)(D:p<fd.length)(C:fd.getD p false=false):ms (fd.set p true) (A.dropLast++nV B p)<ms fd A:=by
 refine xb e λl Gi=>?_;obtain rfl:=Gi;unfold ms;rw[List.dropLast_concat,dc,dc,(DJ D C)];show _<l.length+1+_;exact N6 (CY w p)
section
variable {n m:Nat}{ah env1:List SV}{t:IE}{body:List IS}
def wh(n:Nat)(t:IE)(body:List IS)(m:Nat)(ah:List SV):aD (Fl×List SV):=d0 (ev GP (aa GP n) t) (λah=>aG GP (aa GP n) body ah) m ah
def zc(h:Ev n ah t (bv false)):wh n t body (m+1) ah= .oK (.a,ah):=by
 show(ev GP (aa GP n) t ah).i _=_
 rw[show ev GP (aa GP n) t ah=_ from h];rfl
def Ff(h:Ev n ah t (bv true))(A:Xs n ah body (.oK (fl,env1)))(B:A8 fl=true):wh n t body (m+1) ah=wh n t body m env1:=by
 show(ev GP (aa GP n) t ah).i _=_
 rw[show ev GP (aa GP n) t ah=_ from h]
 show(aG GP (aa GP n) body ah).i _=_
 rw[show aG GP (aa GP n) body ah=_ from A];cases fl
 ·rfl
 ·rfl
 ·cases B
def Ex.M(h:wh n t body 1000 ah= .oK (.a,env1)):Ex n ah (.M t body) env1:=h
end
def z0{fd:List Bool}(e:A.getLast? =none):uY B (m+1) fd A=fd:=by
 show(match A.getLast? with |none=>fd |some p=>_)=_
 rw[e]
def zZ{fd:List Bool}(e:A.getLast? =some p):uY B (m+1) fd A=bif fd.getD p false then uY B m fd A.dropLast else uY B m (fd.set p true) (A.dropLast++nV B p):=by
 show(match A.getLast? with |none=>fd |some p=>_)=_
 rw[e]
def xI(b)(x:Nat):(bif b then [x]else []).length<=1:=by
 induction b using aR
 ·exact da _
 ·exact fh 1
def Ex.F(h:Ev n ah t (bv b))(D:b=true->Ev n ah e (nv x))(A:ah[y]? =some (.aj (W.map nv)))(C:W.length<10000):Ex n ah (.d t [.I y none e] []) (ah.set y (.aj ((W++(bif b then [x]else [])).map nv))):=by
 induction b using aR
 ·rw[cond_false,List.append_nil,(by
   obtain⟨B,e⟩:=mE.mp A
   rw[<-e];exact List.set_getElem_self B:ah.set y (.aj (W.map nv))=ah)]
  exact .z h .j
 ·rw[cond_true,List.map_append];exact .z h (.u (.I A (D rfl) (by rw[cz];exact C)) .j)
def foldl_filter(p)(l:List CT):∀W:List Nat,l.foldl (λs q=>bif we q p then s++[q.t]else s) W=W++(l.filter (we · p)).map (·.t):=by
 induction l with
 |nil=>exact λW=>(List.append_nil W).symm
 |cons q l A=>
  intro W;rw[List.foldl_cons,A,List.filter_cons];cases we q p
  ·rfl
  ·exact iC ..
def wT:IE:=.I (.O 2 none) [.gt] [.i 0]
def wB:List IS:=match bk 40 2 with
 |.M _ b=>b
 |_ =>[]
def Dx(k)(h)(w:WF B){fd:List Bool}{j:SV×SV×SV}(P:RC B fd A)(e:A.getLast? =some p)(S:A.length<1000):∃fl,∃j1:SV×SV×SV,Xs (k+1) [.h (cv h B),.aj (fd.map bv),.aj (A.map nv),j.1,j.2.1,j.2.2] wB (.oK (fl,[.h (cv h B),.aj ((bif fd.getD p false then fd else fd.set p true).map bv),.aj ((bif fd.getD p false then A.dropLast else A.dropLast++nV B p).map nv),j1.1,j1.2.1,j1.2.2]))/\A8 fl=true:=by
 have M:=P.lt p (List.mem_of_getLast? e);have I:p<fd.length:=P.E▸M
 have O:Ex (k+1) [.h (cv h B),.aj (fd.map bv),.aj (A.map nv),j.1,j.2.1,j.2.2] (.h 3 false (.P 2 none)) [.h (cv h B),.aj (fd.map bv),.aj (A.dropLast.map nv),.h (nv p),j.2.1,j.2.2]:=by
  have:=Ex.L (n:=k+1) (ah:=[.h (cv h B),.aj (fd.map bv),.aj (A.map nv),j.1,j.2.1,j.2.2]) (x:=3) (y:=2) rfl (by rw[List.getLast?_map,e];rfl) rfl;rw[<-List.map_dropLast]at this;exact this
 have E:Ev (k+1) [.h (cv h B),.aj (fd.map bv),.aj (A.dropLast.map nv),.h (nv p),j.2.1,j.2.2] (.at 1 none (.r 3)) (bv (fd.getD p false)):=.at rfl (.H rfl) (BQ I);cases ef:fd.getD p false
 ·rw[ef]at E;have D:=ij M;have N:A.dropLast.length<1000:=eV (List.dropLast_sublist A).length_le S
  have F:=λ(W:List Nat) (Q:W.length<=2000)=>Ex.loop (n:=k+1) (t:=wB.getD 6 .cont) (j:=j.2.2) (s:=W) (l:=B.aL) (λs j=>[.h (cv h B),.aj ((fd.set p true).map bv),.aj (s.map nv),.h (nv p),.h (B.ag[p]).v,j]) (λC s=>s.length+C.length<=3000) CT.v (λs q=>bif we q p then s++[q.t]else s) rfl (.u (.g (.H rfl) rfl) .j) rfl (show W.length+B.aL.length<=3000 from Nat.add_le_add Q (az w.g (by decide:4<=1000))) λq C s j H=>by
   have G:Ev (k+1) [.h (cv h B),.aj ((fd.set p true).map bv),.aj (s.map nv),.h (nv p),.h (B.ag[p]).v,.h q.v] (.K (.P 0) [] [.r 5,.r 3]) (bv (we q p)):=.P (.u (.H rfl) (.u (.H rfl) .j)) rfl (Bw k q p);cases ec:we q p
   ·rw[ec]at G;exact .mk rfl (.u (.z G .j) .j) rfl (az (Nat.le_succ _) H)
   ·rw[ec]at G;refine .mk rfl (.u (.z G (.u (.I rfl (.g (.H rfl) rfl) ?_) .j)) (by rw[cond_true,List.map_append];exact .j)) rfl ?_
    ·rw[cz];exact eV (az (eN _ _) H) (by decide)
    ·rw[cond_true,dc,Nat.add_assoc,Nat.add_comm [q.t].length];exact H
  have L:(A.dropLast++bif dB B.ag[p]then [b9 B.ag[p]]else []).length<=1001:=by
   rw[dc];exact Nat.add_le_add (a:=A.dropLast.length) (b:=1000) (d:=1) (fj N) (xI _ _)
  obtain⟨R,F,-⟩:=F ((A.dropLast++bif dB B.ag[p]then [b9 B.ag[p]]else [])++bif !aH (gS 5) (some B.ag[p])then [p+1]else []) (by
   rw[dc]
   exact Nat.add_le_add (b:=1001) (d:=999) L (az (xI _ _) (by decide)))
  rw[foldl_filter]at F;refine⟨.a,(.h (nv p),.h (B.ag[p]).v,R),.u O (.u (.z E .j) (.u (.lQ (enc:=bv) true .d rfl (.H rfl) I) (.u (.h (.Q (.g (.H rfl) rfl) (.H rfl) (by rw[di,D];rfl)) rfl) (.u (.F (b:=dB B.ag[p]) (x:=b9 B.ag[p]) (.Y (.H rfl) (.V rfl)) (λq=>.g (v:=(B.ag[p]).v) (.H rfl) (congrArg some ((w.jmp D) q).1)) rfl (Nat.lt_trans N (by decide)):Ex (k+1) [.h (cv h B),.aj ((fd.set p true).map bv),.aj (A.dropLast.map nv),.h (nv p),.h (B.ag[p]).v,j.2.2] (wB.getD 4 .cont) _) (.u (.F (b:= !aH (gS 5) (some B.ag[p])) (x:=p+1) (.Aq (.H rfl) (.V rfl)) (λq=>.G (.H rfl)) rfl (eV L (by decide)):Ex (k+1) [.h (cv h B),.aj ((fd.set p true).map bv),.aj ((A.dropLast++bif dB B.ag[p]then [b9 B.ag[p]]else []).map nv),.h (nv p),.h (B.ag[p]).v,j.2.2] (wB.getD 5 .cont) _) (.u F ?_)))))),rfl⟩;unfold nV;rw[(by rw[D];rfl:aH (gS 4) B.ag[p]? =dB B.ag[p]),(by rw[D];rfl:Cm B.ag[p]? =b9 B.ag[p]),D,iC,iC];cases aH (gS 5) (some B.ag[p])<;>exact .j
 ·rw[ef]at E;exact⟨_,(.h (nv p),j.2.1,j.2.2),.u O (.z E rfl .cont),rfl⟩
def Dw(k)(h)(w:WF B)(m):∀fd A (j:SV×SV×SV),RC B fd A->ms fd A<m->m<=1000->RC B (uY B m fd A) []/\∃j1:SV×SV×SV,wh (k+1) wT wB m [.h (cv h B),.aj (fd.map bv),.aj (A.map nv),j.1,j.2.1,j.2.2]= .oK (.a,[.h (cv h B),.aj ((uY B m fd A).map bv),.aj [],j1.1,j1.2.1,j1.2.2]):=by
 induction m with
 |zero=>exact λz z z z h=>absurd h (Nat.not_lt_zero _)
 |succ m G=>
  intro fd A j C D F;have E:Ev (k+1) [.h (cv h B),.aj (fd.map bv),.aj (A.map nv),j.1,j.2.1,j.2.2] wT (bv (decide (Int.ofNat 0<Int.ofNat (A.map nv).length))):=.I (.O rfl) .d rfl
  induction e:A.getLast? using aF with
  |none=>
   rw[z0 e];cases List.getLast?_eq_none_iff.mp e;exact⟨C,j,zc E⟩
  |some p=>
   obtain⟨M,j1,L,H⟩:=Dx k h w (j:=j) C e (gZ (eV (eN _ _) D) F);have I:=C.lt p (List.mem_of_getLast? e);rw[(decide_eq_true (Int.ofNat_lt.mpr (by rw[cz];exact List.length_pos_of_mem (List.mem_of_getLast? e))):decide (Int.ofNat 0<Int.ofNat (A.map nv).length)=true)]at E;rw[Ff E L H,zZ e];cases ef:fd.getD p false
   ·exact G _ _ j1 (C.go w e) (gZ (Ls w e (C.E▸I) ef) (Nat.le_of_lt_succ D)) (Nat.le_of_succ_le F)
   ·exact G _ _ j1 (C.skip e ef) (gZ (DN e) (Nat.le_of_lt_succ D)) (Nat.le_of_succ_le F)
def eZ(B:BD):List Bool:=uY B 1000 (List.replicate B.ag.length false) B.aB
def s_(k)(h)(w:WF B):aa GP (k+2) 40 [.h (cv h B)]= .oK (.h (.aj ((eZ B).map bv)),[])/\RC B (eZ B) []:=by
 obtain⟨E,j,C⟩:=Dw k h w 1000 _ _ (.a,.a,.a) (⟨uR,w.aB,λs m=>.inr m,λp D=>absurd D (by
  rw[kM,List.getElem?_replicate]
  split<;>exact fO)⟩:RC B (List.replicate B.ag.length false) B.aB) (by
   unfold ms;rw[List.filter_eq_self.mpr (λa m=>by rw[(List.mem_replicate.mp m).2];rfl),uR]
   exact eV (Nat.add_le_add w.qL (Nat.mul_le_mul_left 6 w.E)) (by decide):ms (List.replicate B.ag.length false) B.aB<1000) (fh _)
 have A:Ex (k+1) (env0 40 [.h (cv h B)]) (bk 40 0) _ :=Ex.f (.y (.g .d rfl) (.E (.g (.H rfl) rfl)) (vz (by rw[cz];exact az w.E (by decide)))) rfl;rw[cz,<-List.map_replicate (f:=bv) (a:=false)]at A;exact⟨aO rfl rfl (.u A (.u (.f (.g (.g (.H rfl) rfl) rfl) rfl) (.u (.M C) (.k rfl)))) rfl,E⟩
noncomputable def pk(q:RD×Bool):Option RD:=bif q.2 then some q.1 else none
def iq(B:BD):List (Option RD):=(B.ag.zip (eZ B)).map pk
def zp(q:RD×Bool):AV:=.tup [q.1.v,bv q.2]
def CH(a:List RD):∀b:List Bool,qG (a.map RD.v) (b.map bv)=(a.zip b).map zp:=by
 induction a with
 |nil=>exact λz=>rfl
 |cons r a A=>exact λb=>match b with
  |[]=>rfl
  |c::b=>congrArg (zp (r,c):: ·) (A b)
def K5(B:BD)(w:WF B)(k)(h)(A:Jy B (iq B)):aa GP (k+4) 41 [.h (cv h B)]= .oK (.h (cv h (dS B (iq B))),[]):=by
 have C:=Ev.X (n:=k+3) (j:=(SV.a,SV.a)) (λj=>[.h (cv h B),j.1,j.2]) zp ov pk (elt:=.L (.r 2) (.r 1) (.d .r)) (tg:=[1,2]) (tup:=true) (es:=[.a 4 4 [.r 0],.h 40 [.r 0]]) (.u (.g (.H rfl) rfl) (.u (.K (.u (.H rfl) .j) (s_ (k+1) h w).1) .j)) (k:=.zip) (congrArg some (CH B.ag (eZ B))) (λz=>rfl) λq m j=>⟨(.h q.1.v,.h (bv q.2)),rfl,.L (.H rfl) (by
  unfold pk
  induction q.2 using aR
  ·exact .d
  ·exact .H rfl)⟩
 exact aO rfl rfl (.h (.u (.H rfl) (.u C .j)) (lj k h A)) rfl
def w3(h:(eZ B).length=B.ag.length):(iq B).length=B.ag.length:=by
 unfold iq;rw[cz,List.length_zip,h,Nat.min_self]
def rm(h:(eZ B).length=B.ag.length)(e:B.ag[i]? =some r):(iq B)[i]? =some (bif (eZ B).getD i false then some r else none):=by
 unfold iq;rw[di,List.getElem?_zip_eq_some.mpr (show B.ag[i]? =some (r,(eZ B).getD i false).1/\(eZ B)[i]? =some (r,(eZ B).getD i false).2 from⟨e,by rw[kM,ij (h▸((mE.mp e).1))];rfl⟩)];rfl
def iu(h:(eZ B).length=B.ag.length)(e:(iq B)[i]? =some (some x)):B.ag[i]? =some x/\(eZ B).getD i false=true:=by
 have A:=(mE.mp e).1;rw[w3 h]at A;have C:=ij A;have:=(rm h C).symm.trans e;cases ef:(eZ B).getD i false
 ·rw[ef]at this;cases this
 ·rw[ef]at this;cases this;exact⟨C,rfl⟩
def EE(h:fN xs a<fN xs b):Nr (λi y=>(a<=i/\i<b)) (λi y=>xs[i]? =some (some y)):=by
 obtain⟨y,m⟩:=List.exists_mem_of_length_pos (by
  unfold fN at h;rw[(by rw[<-List.take_take,List.take_append_drop]:xs.take b=xs.take (min a b)++(xs.take b).drop a),j6,dc]at h
  exact Nat.lt_of_add_lt_add_left (show _+0<_ from eV (by
   have:=wi (xs.take a) b;unfold fN at this;rw[List.take_take,Nat.min_comm]at this
   exact this:(kp (xs.take (min a b))).length<=(kp (xs.take a)).length) h):0<(kp ((xs.take b).drop a)).length)
 refine D0 (iR.mp m) λi B=>?_;rw[List.getElem?_drop]at B;have A:=(mE.mp B).1;rw[List.length_take]at A;have A:=gZ A (Nat.min_le_left _ _);rw[List.getElem?_take_of_lt A]at B;exact⟨a+i,y,⟨eN _ _,A⟩,B⟩
def DV(xs)(y)(h:(kp xs).getLast? =some y):f9 (λ(i:Nat)=>xs[i]? =some (some y)) (λ(i:Nat)=>∀z,xs[i+1]? ≠some (some z)):=by
 induction xs with
 |nil=>cases h
 |cons x l C=>
  induction e:(kp l).getLast? using aF with
  |none=>
   have A:=List.getLast?_eq_none_iff.mp e
   induction x using aF with
   |none=>exact absurd (h.symm.trans e) nofun
   |some r=>
    have:kp (some r::l)=[r]:=congrArg (r:: ·) A;rw[this]at h;cases h
    exact⟨0,rfl,λz q=>by
     have:=iR.mpr (fk (show l[0]? =_ from q))
     rw[A]at this;cases this⟩
  |some z=>
   obtain⟨i,D,B⟩:=C ((by
    induction x using aF with
    |none=>exact dG (e.symm.trans h)
    |some r=>
     have:kp (some r::l)=r::kp l:=rfl;rw[this,List.getLast?_cons,e]at h
     exact dG h:z=y)▸e)
   exact⟨i+1,D,B⟩
def Lc(w:WF B):Fb B (iq B):=by
 have r:=(s_ 0 ⟨.r,.r,.r,.r,[]⟩ w).2;have A:=r.E;have H:∀s,s<B.ag.length->(eZ B).getD s false=true->Lv (iq B) s:=λs D L=>⟨s,B.ag[s],fh _,by rw[rm A (ij D),L];rfl⟩;have E:∀s,(eZ B).getD s false=true\/s∈[]->(eZ B).getD s false=true:=λs q=>q.elim id nofun
 have G:∀(i:Nat) x,(iq B)[i]? =some (some x)->∀s∈nV B i,Lv (iq B) s:=λi x e s m=>by
  have:=iu A e;exact H s (ve w (mE.mp this.1).1 s m) (E s (r.cl i this.2 s m))
 refine⟨w3 A,λi x e=>⟨w.ag x (fk (iu A e).1),λq O=>.inl (dG (O.symm.trans (iu A e).1))⟩,λx m I=>?_,λs m=>H s (w.aB s m) (E s (r.st s m)),λq m M=>?_,λy e=>?_⟩
 ·refine D0 m λi e=>?_;refine G i x e _ (pq _ ?_);rw[(iu A e).1,show aH (gS 4) (some x)=true from I];exact .head _
 ·obtain⟨i,y,⟨C,P⟩,e⟩:=EE M;exact G i y e _ (iI _ (iI _ (List.mem_map.mpr ⟨q,ic.mpr ⟨m,(jo.mpr ⟨decide_eq_true (Int.ofNat_le.mpr C),decide_eq_true (Int.ofNat_lt.mpr P)⟩)⟩,rfl⟩)))
 ·obtain⟨i,F,N⟩:=DV _ y e;have C:=(iu A F).1;cases c:aH (gS 5) (some y)
  ·have ms:i+1∈nV B i:=by
    unfold nV;rw[C,c];exact iI _ (.head _)
   have D:=ve w (mE.mp C).1 _ ms;have:=rm A (ij D);rw[E _ (r.cl i (iu A F).2 _ ms)]at this;exact absurd this (N _)
  ·rfl
def TP.u(tp:TP T lm)(f)(w:WF B):gO T f 41 B:=tp.pass f (out:=iq) K5 (λB w=>Lc w) (λB w=>by
 unfold iq
 rw[(by
  unfold eZ
  rw[tp.uY,show(BT T f B).ag.length=B.ag.length from cz _];rfl:eZ (BT T f B)=eZ B),show(BT T f B).ag=B.ag.map T from rfl,List.zip_map_left,cH,cH]
 refine List.map_congr_left λq m=>?_;show pk (T q.1,q.2)=(pk q).map T;unfold pk
 induction q.2 using aR<;>rfl) w
def i9(a:AV):PyData:=a.data.getD .none
structure PD(k m:Nat)(a:AV):Prop where
 d:a.data=some (i9 a)
 dep:(i9 a).depth<=k
 lay:(i9 a).canLay0=true
 b:(i9 a).showable=true
 E:(i9 a).shown.length<=m
def PD.of(h:Fv k m a=true):PD k m a:=by
 unfold Fv at h
 induction e:a.data using aF with
 |none=>rw[e]at h;cases h
 |some d=>
  rw[e]at h
  have A:i9 a=d:=by unfold i9;rw[e];rfl
  refine d3 h λC h=>?_;refine d3 h λB h=>?_;exact d3 h λD E=>(⟨A.symm▸e,A.symm▸of_decide_eq_true C,A.symm▸B,A.symm▸D,A.symm▸of_decide_eq_true E⟩)
structure wD(r:RD):Prop where
 op:PD 0 24 (.j r.op)
 a:PD 3 24 r.a
 b:PD 3 24 r.b
 c:PD 3 24 r.c
def ND(q:Tx×AV×AV×AV):Bool:=Fv 0 24 (.j q.1)&&(Fv 3 24 q.2.1&&(Fv 3 24 q.2.2.1&&Fv 3 24 q.2.2.2))
def wD.of(h:ND (r.op,r.a,r.b,r.c)=true):wD r:=by
 refine d3 h λB h=>?_;refine d3 h λA h=>?_;exact d3 h λC D=>(⟨.of B,.of A,.of C,.of D⟩)
def E4:(BY.all ND&&(rP.all λo=>ND (o,.r,.r,.r)&&(List.range 16).all λt=>ND (o,nv t,.r,.r)))=true:=by kernel_rfl
def Al.b(h:Al r)(g:Gd n r)(C:n<=16):wD r:=by
 refine d3 E4 λD B=>?_;rcases h with h |h
 ·exact .of (List.all_eq_true.mp D _ h)
 ·refine d3 (List.all_eq_true.mp B _ h.op) λE F=>?_;refine .of ?_;rw[h.b,h.c];rcases h.a with e |⟨A,-⟩
  ·rw[e];exact E
  ·rw[(g.1 A).1.1];exact List.all_eq_true.mp F _ (List.mem_range.mpr (gZ (g.1 A).1.2 C))
def WF.b(w:WF B)(m:r∈B.ag):wD r:=(w.al r m).b (w.ag r m) w.E
def shr(r:RD):AV:=.tup [.j r.op,r.a,r.b,r.c]
def dr(r:RD):PyData:=.tuple [i9 (.j r.op),i9 r.a,i9 r.b,i9 r.c]
def gw(h:PD k m a)(A:cb l=some ds):cb (a::l)=some (i9 a::ds):=by
 show a.data.bind _=_;rw[h.d]
 show(cb l).map _=_
 rw[A];rfl
def wD.data(h:wD r):(shr r).data=some (dr r)/\(dr r).depth<=4/\(dr r).canLay0=true:=by
 refine⟨?_,?_,?_⟩
 ·show(cb [.j r.op,r.a,r.b,r.c]).bind _=_
  rw[gw h.op (gw h.a (gw h.b (gw h.c (by rfl))))];rfl
 ·exact eU (Nat.max_le.mpr ⟨az h.op.dep (by decide),Nat.max_le.mpr ⟨h.a.dep,Nat.max_le.mpr ⟨h.b.dep,Nat.max_le.mpr ⟨h.c.dep,da _⟩⟩⟩⟩)
 ·show(_ &&(_ &&(_ &&(_ &&true))))=true
  rw[h.op.lay,h.a.lay,h.b.lay,h.c.lay];rfl
def qM{l:List RD}(h:∀r∈l,wD r):cb (l.map shr)=some (l.map dr)/\PyData.depthAll (l.map dr)<=4:=by
 induction l with
 |nil=>exact⟨rfl,da _⟩
 |cons r l A=>
  have i:=A λx m=>h x (.tail _ m);have q:=(h r (.head _)).data;refine⟨?_,Nat.max_le.mpr ⟨q.2.1,i.2⟩⟩
  show(shr r).data.bind _=_
  rw[q.1]
  show(cb (l.map shr)).map _=_
  rw[i.1];rfl
def J2{X Y:List RD}(A:∀r∈X,wD r)(B:∀r∈Y,wD r):d_ .eq (.aj (X.map shr)) (.aj (Y.map shr))=some (PyData.eqvAll (X.map dr) (Y.map dr)):=by
 show((cb (X.map shr)).bind _).bind _=_
 rw[(qM A).1]
 show((cb (Y.map shr)).bind _).bind _=_
 rw[(qM B).1];exact if_pos (az (Nat.min_le_left _ _) (az (eU (qM A).2) (by decide)))
def qx(xs):∀ys:List PyData,xs.length≠ys.length->PyData.eqvAll xs ys=false:=by
 induction xs with
 |nil=>exact λys=>match ys with
  |[]=>λh=>absurd rfl h
  |_ ::_ =>λz=>rfl
 |cons x xs A=>exact λys=>match ys with
  |[]=>λz=>rfl
  |y::ys=>λh=>(congrArg (PyData.eqv x y&& ·) (A ys λe=>h (congrArg (· +1) e))).trans (Bool.and_false _)
def PD.j(h:PD k m (.j x)):i9 (.j x)= .str x:=by
 have:=h.d;have e:(AV.j x).data=if PyData.strOk x then some (.str x)else none:=rfl;rw[e]at this
 split at this
 ·exact(dG this).symm
 ·cases this
def Bk(h:wD r)(k:wD y):PyData.eqv (dr r) (dr y)=((r.op==y.op)&&PyData.eqvAll [i9 r.a,i9 r.b,i9 r.c] [i9 y.a,i9 y.b,i9 y.c]):=by
 unfold dr;rw[h.op.j,k.op.j];rfl
def TP.eq(tp:TP T lm)(X:List RD):∀Y:List RD,(∀r∈X,wD r/\wD (T r))->(∀r∈Y,wD r/\wD (T r))->(X.length=Y.length->∀(i:Nat) r y,X[i]? =some r->Y[i]? =some y->Sr r y)->PyData.eqvAll ((X.map T).map dr) ((Y.map T).map dr)=PyData.eqvAll (X.map dr) (Y.map dr):=by
 induction X with
 |nil=>exact λY z z z=>match Y with
  |[]=>rfl
  |_ ::_ =>rfl
 |cons r X L=>exact λY=>match Y with
  |[]=>λz z z=>rfl
  |y::Y=>λH I A=>by
   show(PyData.eqv (dr (T r)) (dr (T y))&&_)=(PyData.eqv (dr r) (dr y)&&_)
   by_cases e:X.length=Y.length
   ·have A:=A (congrArg (· +1) e);rw[L Y (λx m=>H x (.tail _ m)) (λx m=>I x (.tail _ m)) λz i=>A (i+1)]
    congr 1
    have C:=H r (.head _);have G:=I y (.head _);rcases A 0 r y rfl rfl with rfl |⟨D,B,-⟩
    ·rw[SeqAt.eqv_refl _ C.1.data.2.2,SeqAt.eqv_refl _ C.2.data.2.2]
    ·have E:=tp.e r D;have F:=tp.e y B;rw[Bk C.1 G.1,Bk C.2 G.2,tp.q r y D B,E.1,E.2.1,E.2.2,F.1,F.2.1,F.2.2,D.b,D.c,B.b,B.c]
   ·rw[qx ((X.map T).map dr) _ (by rw[cz,cz,cz,cz];exact e),qx (X.map dr) _ (by rw[cz,cz];exact e),Bool.and_false,Bool.and_false]
def Sr.sym(h:Sr r y):Sr y r:=h.elim (λe=>.inl e.symm) λe=>.inr ⟨e.2.1,e.1,e.2.2.symm⟩
def Ev.F4(h:mW n ah es (.s (.fn f)::vs))(A:aa GP n f (vs.map .h)= .oK (.h w,[])):Ev n ah (.K .h [] es) w:=by
 show(c6 (bu GP (aa GP n) es ah)).i _=_
 rw[show bu GP (aa GP n) es ah=_ from h]
 show((aa GP n f (vs.map .h)).i _).i _=_
 rw[A];rfl
def Ev.shape(A:Ev (n+1) ah e (cv h B)):Ev (n+1) ah (.h 49 [e]) (.aj (B.ag.map shr)):=by
 refine .K (.u A .j) (aO rfl rfl (.C (Ev.X (n:=n) (j:=SV.a) (λj=>[.h (cv h B),j]) RD.v shr id (.u (.g (.H rfl) rfl) .j) rfl (λz=>rfl) λr m j=>⟨.h r.v,rfl,.op (.u (.g (.H rfl) rfl) (.u (.g (.H rfl) rfl) (.u (.g (.H rfl) rfl) (.u (.g (.H rfl) rfl) .j)))) rfl⟩)) ?_);rw[List.map_id];rfl
noncomputable def pn:List Nat:=[39,45,46,47,41,42,43,48]
def TP.all(tp:TP T lm)(f)(w:WF B):∀x∈pn,gO T f x B:=by
 unfold pn;exact cu.mpr ⟨tp.s f w,cu.mpr ⟨tp.z f w,cu.mpr ⟨tp.C f w,cu.mpr ⟨tp.D f w,cu.mpr ⟨tp.u f w,cu.mpr ⟨tp.v f w,cu.mpr ⟨tp.w f w,cu.mpr ⟨tp.F f w,gy _⟩⟩⟩⟩⟩⟩⟩⟩
inductive jQ:List Nat->BD->BD->Prop
 |j {B:BD}:jQ [] B B
 |u {f:Nat} {fs:List Nat} {B B1 B2:BD} (h:∀k h,aa GP (k+4) f [.h (cv h B)]= .oK (.h (cv h B1),[])) (t:jQ fs B1 B2):jQ (f::fs) B B2
def Sm.rfl:Sm B B:=⟨fh _,λz i r y h k=>.inl (dG (h.symm.trans k)),λy m=>⟨y,m,_root_.rfl⟩,λy m=>⟨y,m,_root_.rfl,_root_.rfl⟩⟩
def TP.chain(tp:TP T lm)(f)(C):(∀x∈C,x∈pn)->∀B,WF B->Fc (λA=>WF A) (λA=>Sm B A) (λA=>jQ C B A) (λA=>jQ C (BT T f B) (BT T f A)):=by
 induction C with
 |nil=>exact λz B w=>⟨B,w,.rfl,.j,.j⟩
 |cons x C L=>
  intro D B w;refine bB λR E=>?_;obtain⟨A,G,M,H,P⟩:=tp.all f w x (D x (.head _));obtain⟨O,Q,I,N,F⟩:=L (λy m=>D y (.tail _ m)) A G;exact E (⟨O,Q,M.trans I,.u H N,.u P F⟩)
def eqs(A B:BD):Bool:=PyData.eqvAll (A.ag.map dr) (B.ag.map dr)
inductive E9:Nat->BD->BD->Prop
 |stop {B:BD}:E9 0 B B
 |done {m:Nat} {B B1:BD} (w:WF B) (w1:WF B1) (c:jQ pn B B1) (e:eqs B1 B=true):E9 (m+1) B B1
 |go {m:Nat} {B B1 B2:BD} (w:WF B) (w1:WF B1) (c:jQ pn B B1) (e:eqs B1 B=false) (t:E9 m B1 B2):E9 (m+1) B B2
def TP.o(tp:TP T lm)(f)(m):∀B,WF B->Fc (λA=>WF A) (λA=>Sm B A) (λA=>E9 m B A) (λA=>E9 m (BT T f B) (BT T f A)):=by
 induction m with
 |zero=>exact λB w=>⟨B,w,.rfl,.stop,.stop⟩
 |succ m P=>
  intro B w;obtain⟨A,C,E,F,G⟩:=tp.chain f pn (λz m=>m) B w;have v:=tp.wf f w;have D:=tp.wf f C;have H:eqs (BT T f A) (BT T f B)=eqs A B:=tp.eq A.ag B.ag (λr m=>⟨C.b m,D.b (List.mem_map.mpr ⟨r,m,rfl⟩)⟩) (λr m=>⟨w.b m,v.b (List.mem_map.mpr ⟨r,m,rfl⟩)⟩) λe i r y S Q=>(E.pt e i y r Q S).sym;cases e:eqs A B
  ·refine bB λU I=>?_;obtain⟨M,R,O,L,N⟩:=P A C;exact I (⟨M,R,E.trans O,.go w C F e L,.go v D G (H.trans e) N⟩)
  ·exact⟨A,C,E,.done w C F e,.done v D G (H.trans e)⟩
def rg:List (Tx×Nat):=[(Di,39),(Dl,45),(NA,46),(Dk,47),(Dj,41),(Dh,42),(Dg,43),(De,48)]
def pe(q:Tx×Nat):AV:=.tup [.j q.1,.s (.fn q.2)]
def D_(k)(h)(x y)(c:jQ C B A):∀(l:List (Tx×Nat)) (j:SV×SV),l.map (·.2)=C->∃j1:SV×SV,forLoop (aN [3,4] true) (λah=>aG GP (aa GP (k+4)) [.h 0 false (.K .h [] [.r 4,.r 0])] ah) (l.map pe) [.h (cv h B),x,y,j.1,j.2]= .oK (.a,[.h (cv h A),x,y,j1.1,j1.2]):=by
 induction c with
 |j=>
  intro l j e;cases List.map_eq_nil_iff.mp e;exact⟨j,rfl⟩
 | @u f C B A B2 hf _ ih=>
  intro l j e
  induction l using cF with
  |nil=>cases e
  |cons q l=>
   obtain⟨s,g⟩:=q
   cases(List.cons.inj e).1
   obtain⟨j1,D⟩:=ih l (.h (.j s),.h (.s (.fn g))) (List.cons.inj e).2;refine⟨j1,?_⟩
   show(aG GP (aa GP (k+4)) [.h 0 false (.K .h [] [.r 4,.r 0])] [.h (cv h B),x,y,.h (.j s),.h (.s (.fn g))]).i _=_
   rw[show aG GP (aa GP (k+4)) _ _=_ from(.u (.h (.F4 (.u (.H rfl) (.u (.H rfl) .j)) (hf k h)) rfl) .j:Xs (k+4) [.h (cv h B),x,y,.h (.j s),.h (.s (.fn g))] [.h 0 false (.K .h [] [.r 4,.r 0])] (.oK (.a,[.h (cv h A),x,y,.h (.j s),.h (.s (.fn g))])))];exact D
inductive RO(c:AV)(r:aD (Fl×List SV)):Prop
 |C {ah:List SV} (h:r= .oK (.C (.h c),ah))
 |nx {a b d e:SV} (h:r= .oK (.a,[.h c,a,b,d,e]))
def Iw:List IS:=match bk 50 0 with
 |.l _ _ _ _ b=>b
 |_ =>[]
def round(k)(h)(w:WF B)(E:WF A)(c:jQ pn B A)(t b j1 C):∃j:SV×SV×SV,Xs (k+4) [.h (cv h B),t,b,j1,C] Iw (.oK (bif eqs A B then .C (.h (cv h A))else .a,[.h (cv h A),t,j.1,j.2.1,j.2.2])):=by
 obtain⟨j,l⟩:=D_ k h t (.h (.aj (B.ag.map shr))) c rg (j1,C) rfl;have D:Ev (k+4) [.h (cv h A),t,.h (.aj (B.ag.map shr)),j.1,j.2] (.q (.h 49 [.r 0]) (.r 2)) (bv (eqs A B)):=.I (.shape (h:=h) (.H rfl)) (.H rfl) (J2 (λz=>E.b) λz=>w.b);refine⟨(.h (.aj (B.ag.map shr)),j),.u (.h (.shape (h:=h) (.H rfl)) rfl:Ex (k+4) [.h (cv h B),t,b,j1,C] (Iw.getD 0 .cont) _) (.u (.a (.u (.M rfl) .j) rfl l:Ex (k+4) [.h (cv h B),t,.h (.aj (B.ag.map shr)),j1,C] (Iw.getD 1 .cont) _) ?_)⟩;cases e:eqs A B
 ·rw[e]at D;exact .u (.z D .j) .j
 ·rw[e]at D;exact .z D rfl (.C (.H rfl))
def rounds(k)(h)(c:E9 m B C):∀(l:List AV) (t b j1 A:SV),l.length=m->RO (cv h C) (forLoop (aN [1] false) (λah=>aG GP (aa GP (k+4)) Iw ah) l [.h (cv h B),t,b,j1,A]):=by
 induction c with
 |stop=>
  intro l t b j1 A e;cases List.length_eq_zero_iff.mp e;exact .nx rfl
 | @done m B C w w1 c e0=>
  intro l t b j1 A e
  induction l using cF with
  |nil=>cases e
  |cons v l=>
   obtain⟨j,x⟩:=round k h w w1 c (.h v) b j1 A;rw[e0]at x;refine .C (ah:=[.h (cv h C),.h v,j.1,j.2.1,j.2.2]) ?_
   ·show(aG GP (aa GP (k+4)) Iw [.h (cv h B),.h v,b,j1,A]).i _=_
    rw[show aG GP (aa GP (k+4)) _ _=_ from x];rfl
 | @go m B C B2 w w1 c e0 _ ih=>
  intro l t b j1 A e
  induction l using cF with
  |nil=>cases e
  |cons v l=>
   obtain⟨j,x⟩:=round k h w w1 c (.h v) b j1 A;rw[e0]at x;show RO _ ((aG GP (aa GP (k+4)) Iw [.h (cv h B),.h v,b,j1,A]).i _);rw[show aG GP (aa GP (k+4)) _ _=_ from x];exact ih l _ _ _ _ (Nat.succ.inj e)
def BZ(k)(h)(c:E9 24 B E):aa GP (k+5) 50 [.h (cv h B)]= .oK (.h (cv h E),[]):=by
 have r:=rounds k h c ((List.range 24).map nv) .a .a .a .a rfl;have D:∀C A,forLoop (aN [1] false) (λF=>aG GP (aa GP (k+4)) Iw F) ((List.range 24).map nv) [.h (cv h B),.a,.a,.a,.a]= .oK (C,A)->eG GP (aa GP (k+4)) (bk 50 0) (env0 50 [.h (cv h B)])= .oK (C,A):=λC A e=>e;rcases r with r |r
 ·exact aO rfl rfl (by
   show(eG GP (aa GP (k+4)) (bk 50 0) _).i _=_
   rw[D _ _ r];rfl) rfl
 ·exact aO rfl rfl (.u (D _ _ r) (.C (.H rfl))) rfl
noncomputable def HD.w(h:HD)(K:List AV):HD:={h with kids:=K}
def Ev.kids{JT:Type}(E:JT->List SV){j:JT}{A:List (AV×AV)}(D:Ev n (E j) e (.aj (A.map Prod.fst)))(C:∀j1,gA [tg] (E j1)=E j)(B:∀q∈A,∀j,∃j0,aN [tg] false q.1 (E j)= .oK (E j0)/\Ev n (E j0) elt q.2):Ev n (E j) (.B elt [tg] false .h [e] []) (.aj (A.map Prod.snd)):=by
 have:=Ev.X E Prod.fst (id:AV->AV) Prod.snd (k:=.h) (.u D .j) rfl C B;rw[List.map_id]at this;exact this
def nF(k)(h:HD)(c:E9 24 B C)(A:List (AV×AV))(D:∀q∈A,aa GP (k+5) 51 [.h q.1]= .oK (.h q.2,[])):aa GP (k+6) 51 [.h (cv (h.w (A.map Prod.fst)) B)]= .oK (.h (cv (h.w (A.map Prod.snd)) C),[]):=by
 exact aO rfl rfl (.u (.h (.K (.u (.H rfl) .j) (BZ k _ c)) rfl) (.i (.u (.H rfl) (.u (.g (.H rfl) rfl) (.u (.g (.H rfl) rfl) (.u (.g (.H rfl) rfl) (.u (Ev.kids (n:=k+5) (j:=SV.a) (tg:=2) (λj=>[.h (cv (h.w (A.map Prod.fst)) B),.h (cv (h.w (A.map Prod.fst)) C),j]) (e:=.a 4 6 [.r 1]) (elt:=.h 51 [.r 2]) (.g (.H rfl) rfl) (λz=>rfl) λq m j=>⟨.h q.1,rfl,.K (.u (.H rfl) .j) (D q m)⟩) .j))))) rfl (y_ (k+3) (h.w (A.map Prod.fst)) C _ _ _ _))) rfl
def Au(k):∀q∈rg,aa GP (k+1) 52 [.h (.j q.1)]= .oK (.h (.s (.fn q.2)),[]):=by
 unfold rg;refine cu.mpr ⟨?_,cu.mpr ⟨?_,cu.mpr ⟨?_,cu.mpr ⟨?_,cu.mpr ⟨?_,cu.mpr ⟨?_,cu.mpr ⟨?_,cu.mpr ⟨?_,gy _⟩⟩⟩⟩⟩⟩⟩⟩<;>kernel_rfl
def Ra:List IS:=match bk 53 0 with
 |.l _ _ _ _ b=>b
 |_ =>[]
def EM(k)(h)(x)(c:jQ C B A):∀(l:List (Tx×Nat)) (a b d:SV),l.map (·.2)=C->(∀q∈l,q∈rg)->∃j:SV×SV,forLoop (aN [2] false) (λah=>aG GP (aa GP (k+4)) Ra ah) (l.map λq=>.j q.1) [.h (cv h B),x,a,b,d]= .oK (.a,[.h (cv h A),x,j.1,j.2,d]):=by
 induction c with
 |j=>
  intro l a b d e _;cases List.map_eq_nil_iff.mp e;exact⟨(a,b),rfl⟩
 | @u f C B A B2 hf _ ih=>
  intro l a b d e D
  induction l using cF with
  |nil=>cases e
  |cons q l=>
   refine bB λH E=>?_
   cases(List.cons.inj e).1
   obtain⟨j,F⟩:=ih l (.h (.j q.1)) (.h (.s (.fn q.2))) d (List.cons.inj e).2 λy m=>D y (.tail _ m);refine E (⟨j,?_⟩);have G:Xs (k+4) [.h (cv h B),x,.h (.j q.1),b,d] Ra (.oK (.a,[.h (cv h A),x,.h (.j q.1),.h (.s (.fn q.2)),d])):=.u (.h (.K (.u (.H rfl) .j) (Au (k+3) q (D q (.head _)))) rfl) (.u (.z (b:=true) (.I (.H rfl) .d rfl) (.u (.h (.F4 (.u (.H rfl) (.u (.H rfl) .j)) (hf k h)) rfl) .j)) .j)
   show(aG GP (aa GP (k+4)) Ra [.h (cv h B),x,.h (.j q.1),b,d]).i _=_
   rw[show aG GP (aa GP (k+4)) _ _=_ from G];exact F
def pE(l:List (Tx×Nat)):AV:=.aj (l.map λq=>.j q.1)
def xG(k)(h:HD)(l:List (Tx×Nat))(E:∀q∈l,q∈rg)(c:jQ (l.map (·.2)) B C)(A:List (AV×AV))(D:∀q∈A,aa GP (k+4) 53 [.h q.1,.h (pE l)]= .oK (.h q.2,[])):aa GP (k+5) 53 [.h (cv (h.w (A.map Prod.fst)) B),.h (pE l)]= .oK (.h (cv (h.w (A.map Prod.snd)) C),[]):=by
 obtain⟨j,e⟩:=EM k (h.w (A.map Prod.fst)) (.h (pE l)) c l .a .a .a rfl E;exact aO rfl rfl (.u (.a (.u (.H rfl) .j) rfl e:Ex (k+4) [.h (cv (h.w (A.map Prod.fst)) B),.h (pE l),.a,.a,.a] (bk 53 0) _) (.i (.u (.H rfl) (.u (.g (.H rfl) rfl) (.u (.g (.H rfl) rfl) (.u (.g (.H rfl) rfl) (.u (Ev.kids (n:=k+4) (j:=SV.a) (tg:=4) (λF=>[.h (cv (h.w (A.map Prod.fst)) C),.h (pE l),j.1,j.2,F]) (e:=.a 4 6 [.r 0]) (elt:=.h 53 [.r 4,.r 1]) (.g (.H rfl) rfl) (λz=>rfl) λq m j=>⟨.h q.1,rfl,.K (.u (.H rfl) (.u (.H (v:=pE l) rfl) .j)) (D q m)⟩) .j))))) rfl (y_ (k+2) (h.w (A.map Prod.fst)) C _ _ _ _))) rfl
def RD.p(r:RD):AV:=.tup [.j r.op,r.a,r.b,r.c,.m r.l]
def CT.p(q:CT):AV:=.tup [.j q.s,nv q.f,nv q.la,nv q.t,.m q.d]
def pv(h:HD)(B:BD):AV:=.aj [h.f,h.name,h.params,h.slots,.aj (B.ag.map RD.p),.aj (B.aL.map CT.p),.aj (B.aB.map nv),.aj h.kids]
def Ex.r(h:Ev n ah e v)(A:aN xs true v ah= .oK env1):Ex n ah (.r xs e) env1:=by
 show(ev GP (aa GP n) e ah).i _=_
 rw[show ev GP (aa GP n) e ah=_ from h]
 show(aN xs true v ah).i _=_
 rw[A];rfl
def jS(k)(h:HD)(B)(E)(hs:h.slots= .aj E)(A:List (AV×AV))(F:∀q∈A,aa GP k 85 [.h q.1]= .oK (.h q.2,[])):aa GP (k+1) 85 [.h (cv (h.w (A.map Prod.fst)) B)]= .oK (.h (pv (h.w (A.map Prod.snd)) B),[]):=by
 have C:=Ev.X (n:=k) (j:=SV.a) (λj=>[.h (cv (h.w (A.map Prod.fst)) B),.a,.a,.a,j,.a,.a]) RD.v RD.p id (tg:=[4]) (tup:=false) (k:=.h) (elt:=.u [.a 2 0 [.r 4],.a 2 1 [.r 4],.a 2 2 [.r 4],.a 2 3 [.r 4],.a 2 4 [.r 4]]) (es:=[.a 4 4 [.r 0]]) (.u (.g (.H rfl) rfl) .j) rfl (λz=>rfl) λr m j=>⟨.h r.v,rfl,.op (.u (.g (.H rfl) rfl) (.u (.g (.H rfl) rfl) (.u (.g (.H rfl) rfl) (.u (.g (.H rfl) rfl) (.u (.g (.H rfl) rfl) .j))))) rfl⟩;rw[List.map_id]at C;have D:=Ev.X (n:=k) (j:=SV.a) (λj=>[.h (cv (h.w (A.map Prod.fst)) B),.h (.aj (B.ag.map RD.p)),.a,.a,.a,j,.a]) CT.v CT.p id (tg:=[5]) (tup:=false) (k:=.h) (elt:=.u [.a 3 0 [.r 5],.a 3 1 [.r 5],.a 3 2 [.r 5],.a 3 3 [.r 5],.a 3 4 [.r 5]]) (es:=[.a 4 5 [.r 0]]) (.u (.g (.H rfl) rfl) .j) rfl (λz=>rfl) λr m j=>⟨.h r.v,rfl,.op (.u (.g (.H rfl) rfl) (.u (.g (.H rfl) rfl) (.u (.g (.H rfl) rfl) (.u (.g (.H rfl) rfl) (.u (.g (.H rfl) rfl) .j))))) rfl⟩;rw[List.map_id]at D;exact aO rfl rfl (.u (.h C rfl) (.u (.h D rfl) (.u (.h (Ev.kids (n:=k) (j:=SV.a) (tg:=6) (λj=>[.h (cv (h.w (A.map Prod.fst)) B),.h (.aj (B.ag.map RD.p)),.h (.aj (B.aL.map CT.p)),.a,.a,.a,j]) (e:=.a 4 6 [.r 0]) (elt:=.h 85 [.r 6]) (.g (.H rfl) rfl) (λz=>rfl) λq m j=>⟨.h q.1,rfl,.K (.u (.H rfl) .j) (F q m)⟩) rfl) (.C (.op (.u (.g (.H rfl) rfl) (.u (.g (.H rfl) rfl) (.u (.g (.H rfl) rfl) (.u (.g (.g (.H rfl) rfl) (show hZ GP .b [h.slots]=_ by rw[hs];rfl):Ev k [.h (cv (h.w (A.map Prod.fst)) B),.h (.aj (B.ag.map RD.p)),.h (.aj (B.aL.map CT.p)),.h (.aj (A.map Prod.snd)),.a,.a,.a] (.op .b [.a 4 3 [.r 0]]) h.slots) (.u (.H rfl) (.u (.H rfl) (.u (.g (.g (.H rfl) rfl) rfl) (.u (.H rfl) .j)))))))) rfl))))) rfl
def j_(k)(h:HD)(B)(E)(hs:h.slots= .aj E)(A:List (AV×AV))(F:∀q∈A,aa GP (k+1) 84 [.h q.1]= .oK (.h q.2,[])):aa GP (k+2) 84 [.h (pv (h.w (A.map Prod.fst)) B)]= .oK (.h (cv (h.w (A.map Prod.snd)) B),[]):=by
 have C:=Ev.X (n:=k+1) (j:=(SV.a,SV.a,SV.a,SV.a,SV.a)) (λj=>[.h (pv (h.w (A.map Prod.fst)) B),.h h.f,.h h.name,.h h.params,.h h.slots,.h (.aj (B.ag.map RD.p)),.h (.aj (B.aL.map CT.p)),.h (.aj (B.aB.map nv)),.h (.aj (A.map Prod.fst)),.a,.a,j.1,j.2.1,j.2.2.1,j.2.2.2.1,j.2.2.2.2,.a,.a,.a,.a,.a,.a]) RD.p RD.v id (tg:=[11,12,13,14,15]) (tup:=true) (k:=.h) (elt:=.K (.new 0) [] [.r 11,.r 12,.r 13,.r 14,.r 15]) (es:=[.r 5]) (.u (.H rfl) .j) rfl (λz=>rfl) λr m j=>⟨(.h (.j r.op),.h r.a,.h r.b,.h r.c,.h (.m r.l)),rfl,.new (c:=0) (.u (.H rfl) (.u (.H rfl) (.u (.H rfl) (.u (.H rfl) (.u (.H rfl) .j))))) (k9 k _ _ _ _ _)⟩;rw[List.map_id]at C;have D:=Ev.X (n:=k+1) (j:=(SV.a,SV.a,SV.a,SV.a,SV.a)) (λj=>[.h (pv (h.w (A.map Prod.fst)) B),.h h.f,.h h.name,.h h.params,.h h.slots,.h (.aj (B.ag.map RD.p)),.h (.aj (B.aL.map CT.p)),.h (.aj (B.aB.map nv)),.h (.aj (A.map Prod.fst)),.h (.aj (B.ag.map RD.v)),.a,.a,.a,.a,.a,.a,j.1,j.2.1,j.2.2.1,j.2.2.2.1,j.2.2.2.2,.a]) CT.p CT.v id (tg:=[16,17,18,19,20]) (tup:=true) (k:=.h) (elt:=.K (.new 1) [] [.r 16,.r 17,.r 18,.r 19,.r 20]) (es:=[.r 6]) (.u (.H rfl) .j) rfl (λz=>rfl) λr m j=>⟨(.h (.j r.s),.h (nv r.f),.h (nv r.la),.h (nv r.t),.h (.m r.d)),rfl,.new (c:=1) (.u (.H rfl) (.u (.H rfl) (.u (.H rfl) (.u (.H rfl) (.u (.H rfl) .j))))) (xE k _ _ _ _ _)⟩;rw[List.map_id]at D;exact aO rfl rfl (.u (.r (v:=pv (h.w (A.map Prod.fst)) B) (.H rfl) rfl:Ex (k+1) (env0 84 [.h (pv (h.w (A.map Prod.fst)) B)]) (bk 84 0) [.h (pv (h.w (A.map Prod.fst)) B),.h h.f,.h h.name,.h h.params,.h h.slots,.h (.aj (B.ag.map RD.p)),.h (.aj (B.aL.map CT.p)),.h (.aj (B.aB.map nv)),.h (.aj (A.map Prod.fst)),.a,.a,.a,.a,.a,.a,.a,.a,.a,.a,.a,.a,.a]) (.u (.h C rfl) (.u (.h D rfl) (.C (.new (c:=2) (.u (.H rfl) (.u (.H rfl) (.u (.H rfl) (.u (.g (.H rfl) (show hZ GP .b [h.slots]=_ by rw[hs];rfl):Ev (k+1) [.h (pv (h.w (A.map Prod.fst)) B),.h h.f,.h h.name,.h h.params,.h h.slots,.h (.aj (B.ag.map RD.p)),.h (.aj (B.aL.map CT.p)),.h (.aj (B.aB.map nv)),.h (.aj (A.map Prod.fst)),.h (.aj (B.ag.map RD.v)),.h (.aj (B.aL.map CT.v)),.a,.a,.a,.a,.a,.a,.a,.a,.a,.a,.a] (.op .b [.r 4]) h.slots) (.u (.H rfl) (.u (.H rfl) (.u (Ev.kids (n:=k+1) (j:=SV.a) (tg:=21) (λj=>[.h (pv (h.w (A.map Prod.fst)) B),.h h.f,.h h.name,.h h.params,.h h.slots,.h (.aj (B.ag.map RD.p)),.h (.aj (B.aL.map CT.p)),.h (.aj (B.aB.map nv)),.h (.aj (A.map Prod.fst)),.h (.aj (B.ag.map RD.v)),.h (.aj (B.aL.map CT.v)),.a,.a,.a,.a,.a,.a,.a,.a,.a,.a,j]) (e:=.r 8) (elt:=.h 84 [.r 21]) (.H rfl) (λz=>rfl) λq m j=>⟨.h q.1,rfl,.K (.u (.H rfl) .j) (F q m)⟩) (.u (.g (.H rfl) rfl) .j)))))))) (By k _ _ _ _ _ _ _ _)))))) rfl
structure WY where
 a:Nat
 b:Nat
 c:Nat
 d:Bool
 e:Bool
 f:Nat
 g:Nat
def WY.v(w:WY):AV:=.aj [nv w.a,nv w.b,nv w.c,bv w.d,bv w.e,nv w.f,nv w.g]
structure kq(w:WY):Prop where
 a:w.a∈[0,1]
 b:w.b∈[1,2]
 c:w.c∈[1,2,3,4,5]
 f:w.f∈[0,1,2]
 g:w.g∈List.range' 300 100
structure CX where
 b:List Nat
 a:Nat
noncomputable def dM:List CX:=[⟨[2,3],0⟩,⟨[3],0⟩,⟨[3],2⟩]
def df:List Tx:=[0,1,2,3,4].flatMap λk=>(p_ (uZ k)).getD []
def ye(w:WY)(x:Tx):Tx:=match df.findIdx? (· ==x)with
 |none=>x
 |some s=>df.getD (3*(bif w.e&&s.blt 6 then 1-s/3 else s/3)+(s+w.b)%3) x
def SY(w:WY):AV->AV
 |.s (.j x)=>.j (ye w x)
 |v=>v
def Vi:List (List Tx):=[[xZ,n_,xY],[sY,sZ],[zJ,zM]]
def si(w:WY)(x:Tx):Tx:=match Vi.find? (·.any (· ==x))with
 |none=>x
 |some l=>l.getD ((l.findIdx (· ==x)+w.f)%l.length) x
def So(w:WY):AV->AV
 |.s (.j x)=>.j (si w x)
 |v=>v
noncomputable def za:AV->Nat
 |.s .r=>6
 |.s (.u b)=>bif b then 0 else 7
 |.s (.m i)=>bif i==0 then 1 else 4
 |.s (.j x)=>bif x==⟨#[]⟩then 2 else bif x==⟨#[115]⟩then 3 else 5
 |_ =>8
def FU(b:Bool):List AV:=bif b then dP.take 6 else dP.drop 6
def Nw(w:WY)(a:AV):AV:=(FU ((za a).blt 6^^w.d)).getD (((bif (za a).blt 6 then za a else za a-6)+w.c)%(FU ((za a).blt 6^^w.d)).length) a
def gD:Tx:=xX
def gC:Tx:=wU
def ip:Tx:=qU
def i6:Tx:=qT
def wM:Tx:=qS
def wN:Tx:=qR
def gj:List (Bool×Tx×Tx):=[(true,fR,jd),(false,ip,i6),(false,wM,wN),(false,sM,JL)]
noncomputable def NG(w:WY)(o:Tx):List (Bool×Tx×Tx)->Tx
 |[]=>o
 |p::l=>bif p.2.1==o then(bif (bif p.1 then w.d else w.e)then p.2.2 else o)else bif p.2.2==o then(bif (bif p.1 then w.d else w.e)then p.2.1 else o)else NG w o l
def vv(w:WY)(o:Tx):Tx:=NG w o gj
def Vm(w:WY)(x:CX)(a b:AV):AV:=match a,b with
 |.s (.m i),.s (.m j)=>(match x.b[i.toNat]? with
  |some s=>bif j.toNat.blt s then nv ((j.toNat+(s-1-w.a%(s-1)))%s)else b
  |none=>b)
 |_,_ =>b
def QS(x:CX):AV->AV
 |.s (.m i)=>bif i.toNat.blt x.a then nv ((i.toNat+1)%x.a)else .s (.m i)
 |v=>v
def du(o:Tx):Bool:=(gS 4).any λy=>y==o
def rX(w:WY)(x:CX)(q:Q3):AV×AV:=
 bif du q.1 then q.2 else
 bif q.1==gD || q.1==gC then(q.2.1,Vm w x q.2.1 q.2.2)else
 bif q.1==c5 then(Nw w q.2.1,q.2.2)else
 bif q.1==bT then(QS x q.2.1,q.2.2)else
 bif q.1==CU then(So w q.2.1,q.2.2)else
 (SY w q.2.1,bif q.1==vd then QS x q.2.2 else SY w q.2.2)
def kT(x:CX):AV->AV
 |.n 0 [t,i]=>.n 0 [t,QS x i]
 |v=>v
def cT(w:WY)(x:CX)(o:Tx)(c:AV):AV:=bif o==bq then(match c with
 |.n 0 [s,k]=>.n 0 [So w s,kT x k]
 |c=>c)else c
def T(w:WY)(x:CX)(r:RD):RD:=⟨vv w r.op,(rX w x (r.op,r.a,r.b)).1,(rX w x (r.op,r.a,r.b)).2,cT w x r.op r.c,Int.ofNat w.g-3*r.l⟩
noncomputable def bb:List Bool:=[true,false]
theorem bN:∀b:Bool,b∈bb
 |true=>.head _
 |false=>.tail _ (.head _)
def yf{f g:α->β->C}{l:List α}{m:List β}(h:(l.map λx=>m.map λy=>f x y)=l.map λx=>m.map λy=>g x y):∀x∈l,∀y∈m,f x y=g x y:=λx A y B=>List.map_inj_left.mp (List.map_inj_left.mp h x A) y B
def CX.c(x:CX):AV:=.aj (x.b.map nv)
def Jt(w:WY)(x:CX)(t:AV×AV×AV×AV×AV)(q:AV×AV×AV):List SV:=[.h (.tup [t.1,t.2.1,t.2.2.1,t.2.2.2.1,t.2.2.2.2]),.h w.v,.h x.c,.h (nv x.a),.h t.1,.h q.1,.h q.2.1,.h q.2.2,.h t.2.2.2.2]
def Rr(k:Nat)(w:WY)(x:CX)(c l:AV)(q:Q3):aD (Fl×List SV):=aG GP (aa GP (k+3)) [bk 82 0,bk 82 1] (env0 82 [.h (.tup [.j q.1,q.2.1,q.2.2,c,l]),.h w.v,.h x.c,.h (nv x.a)])
def Rm(w:WY)(x:CX)(c l:AV)(q:Q3):aD (Fl×List SV):=.oK (.a,Jt w x (.j q.1,q.2.1,q.2.2,c,l) ((rX w x q).1,(rX w x q).2,c))
section
variable (k a b c f g:Nat)(d e:Bool)(x:CX)(u l:AV)
def VE:(bb.map λd=>[1,2,3,4,5].map λc=>zi.map (Rr k ⟨a,b,c,d,e,f,g⟩ x u l))=bb.map λd=>[1,2,3,4,5].map λc=>zi.map (Rm ⟨a,b,c,d,e,f,g⟩ x u l):=by kernel_rfl
def VD:([0,1].map λa=>dM.map λx=>mX.map (Rr k ⟨a,b,c,d,e,f,g⟩ x u l))=[0,1].map λa=>dM.map λx=>mX.map (Rm ⟨a,b,c,d,e,f,g⟩ x u l):=by kernel_rfl
def Sz:(bb.map λe=>[1,2].map λb=>(zj++(vc++(zk++mY))).map (Rr k ⟨a,b,c,d,e,f,g⟩ x u l))=bb.map λe=>[1,2].map λb=>(zj++(vc++(zk++mY))).map (Rm ⟨a,b,c,d,e,f,g⟩ x u l):=by kernel_rfl
def VG:(dM.map λx=>gX.map (Rr k ⟨a,b,c,d,e,f,g⟩ x u l))=dM.map λx=>gX.map (Rm ⟨a,b,c,d,e,f,g⟩ x u l):=by kernel_rfl
def VI:(bb.map λe=>[1,2].map λb=>dM.map λx=>lM.map (Rr k ⟨a,b,c,d,e,f,g⟩ x u l))=bb.map λe=>[1,2].map λb=>dM.map λx=>lM.map (Rm ⟨a,b,c,d,e,f,g⟩ x u l):=by kernel_rfl
def VF:([0,1,2].map λf=>xT.map (Rr k ⟨a,b,c,d,e,f,g⟩ x u l))=[0,1,2].map λf=>xT.map (Rm ⟨a,b,c,d,e,f,g⟩ x u l):=by kernel_rfl
def VH(t):((gS 4).map λo=>Rr k ⟨a,b,c,d,e,f,g⟩ x u l (o,nv t,.r))=(gS 4).map λo=>Rm ⟨a,b,c,d,e,f,g⟩ x u l (o,nv t,.r):=by kernel_rfl
end
def ax{l:List α}(h:l.map f=l.map g):∀x∈l,f x=g x:=List.map_inj_left.mp h
inductive sy:RD->Prop
 |j {o:Tx} (m:o∈gS 4) (t:Nat) (l:Int):sy ⟨o,nv t,.r,.r,l⟩
 |t {q:Q3} (m:q∈eT) (l:Int):sy ⟨q.1,q.2.1,q.2.2,.r,l⟩
 |s {q:Q3} (m:q∈mY) {c:AV} (mc:c∈fu) (l:Int):sy ⟨q.1,q.2.1,q.2.2,c,l⟩
def EA:∀o∈[bM,dQ],(o,AV.r,AV.r)∈vc:=cu.mpr ⟨.tail _ (.tail _ (.tail _ (.tail _ (.tail _ (.head _))))),cu.mpr ⟨.tail _ (.tail _ (.tail _ (.head _))),gy _⟩⟩
def Gz(m:q∈vc):q∈eT:=iI _ (iI _ (iI _ (pq _ m)))
def xd(h:dB r=true):r.op∈gS 4:=fJ (P:=λo=>o∈gS 4) h λz m=>m
def Al.cls(h:Al r)(g:Gd n r):sy r:=by
 rcases h with h |h
 ·rcases gM.mp h with h |h
  ·refine bZ h λq m e=>?_;cases r;cases e;exact .t m _
  ·obtain⟨q,m,h⟩:=List.mem_flatMap.mp h;refine bZ h λc C e=>?_;cases r;cases e;exact .s m C _
 ·cases hj:dB r
  ·obtain⟨o,a,b,c,l⟩:=r;obtain⟨ha,A,B,ho⟩:=h;cases A;cases B;rcases ha with ha |ha
   ·cases ha
    exact .t (q:=(o,.r,.r)) (Gz (EA o (by
     rcases iZ.mp ho with h |ho
     ·exact h▸.head _
     ·rcases iZ.mp ho with h |ho
      ·exact h▸.tail _ (.head _)
      ·exact absurd (hj.symm.trans (show du o=true from List.any_eq_true.mpr ⟨o,ho,beq_self_eq_true o⟩)) fO:o∈[bM,dQ]))) l
   ·rw[hj]at ha;cases ha.1
  ·obtain⟨⟨ha,-⟩,A,B⟩:=g.1 hj;obtain⟨o,a,b,c,l⟩:=r;cases A;cases B;rw[show a=nv _ from ha];exact .j (xd hj) _ l
def VJ(k)(h:kq w)(B:x∈dM)(u l):∀q∈eT,Rr k w x u l q=Rm w x u l q:=by
 obtain⟨a,b,c,d,e,f,g⟩:=w;have A:=ax (ax (ax (Sz k a c f g d x u l) e (bN e)) b h.b);unfold eT;refine g0.mpr ⟨ax (ax (ax (VE k a b f g e x u l) d (bN d)) c h.c),g0.mpr ⟨ax (ax (ax (VD k b c f g d e u l) a h.a) x B),?_⟩⟩;rw[g0,g0,g0]at A;exact g0.mpr ⟨A.1,g0.mpr ⟨A.2.1,g0.mpr ⟨A.2.2.1,g0.mpr ⟨ax (ax (VG k a b c f g d e u l) x B),g0.mpr ⟨ax (ax (ax (ax (VI k a c f g d u l) e (bN e)) b h.b) x B),ax (ax (VF k a b c g d e x u l) f h.f)⟩⟩⟩⟩⟩
def Xs.I:∀{l1 A:List IS},Xs n ah l1 (.oK (.a,env1))->Xs n env1 A r->Xs n ah (l1++A) r:=by
 intro l1
 induction l1 generalizing ah with
 |nil=>intro A h B;cases h;exact B
 |cons s l1 E=>
  intro A h B;have h:(eG GP (aa GP n) s ah).i _=_ :=h
  show(eG GP (aa GP n) s ah).i _=_
  induction e:eG GP (aa GP n) s ah using Mine.bf with
  |bG=>rw[e]at h;cases h
  |aA=>rw[e]at h;cases h
  |oK b=>
   rw[e]at h;obtain⟨D,C⟩:=b
   induction D using Mine.Fl.casesOn with
   |a=>exact E h B
   |cont=>cases h
   |C v=>cases h
def VC(k a b c f g:Nat)(d e:Bool)(t:AV×AV×AV×AV×AV)(p q:AV):([0,1,2].map λf=>dM.map λx=>fu.map λu=>aG GP (aa GP (k+3)) [bk 82 2] (Jt ⟨a,b,c,d,e,f,g⟩ x (.j bq,t.2) (p,q,u)))=[0,1,2].map λf=>dM.map λx=>fu.map λu=>.oK (.a,Jt ⟨a,b,c,d,e,f,g⟩ x (.j bq,t.2) (p,q,cT ⟨a,b,c,d,e,f,g⟩ x bq u)):=by kernel_rfl
def m8:List Tx:=[c5,gD,gC,ip,i6,wM,wN,pI,qQ,sX,sM,JL,fX,dQ,dK,bM,vl,m6,bT,vd,CU]++gS 4
def oj:∀q∈eT,q.1∈m8:=by
 exact λq m=>of_decide_eq_true (ax (by kernel_rfl:(eT.map λq=>decide (q.1∈m8))=eT.map λz=>true) q m)
def Sx(k:Nat)(w:WY)(x:CX)(t:AV×AV×AV×AV×AV)(q:AV×AV×AV):(m8.map λo=>aG GP (aa GP (k+3)) [bk 82 2] (Jt w x (.j o,t.2) q))=m8.map λo=>.oK (.a,Jt w x (.j o,t.2) (q.1,q.2.1,cT w x o q.2.2)):=by kernel_rfl
def Wd(k a b c f g:Nat)(d e:Bool):(bb.map λd=>bb.map λe=>(bq::m8).map λo=>aa GP (k+1) 81 [.h (.j o),.h (WY.v ⟨a,b,c,d,e,f,g⟩)])=bb.map λd=>bb.map λe=>(bq::m8).map λo=>.oK (.h (.j (vv ⟨a,b,c,d,e,f,g⟩ o)),[]):=by kernel_rfl
def Lj(k)(w)(m:o∈bq::m8):aa GP (k+1) 81 [.h (.j o),.h w.v]= .oK (.h (.j (vv w o)),[]):=by
 obtain⟨a,b,c,d,e,f,g⟩:=w;exact ax (ax (ax (Wd k a b c f g d e) d (bN d)) e (bN e)) o m
def Ln(l:Int):Prop:=l.natAbs<=1000
def qX(k:Nat)(w:WY)(x:CX)(m:o∈bq::m8)(B:Ln l)(t:AV×AV×AV×AV×AV)(q:AV×AV×AV)(A:t.2.2.2.2= .m l):∃env1,Xs (k+3) (Jt w x (.j o,t.2) q) [bk 82 3] (.oK (.C (.h (.tup [.j (vv w o),q.1,q.2.1,q.2.2,.m (Int.ofNat w.g-3*l)])),env1)):=by
 refine⟨_,.C (.op (.u (.K (.u (.H rfl) (.u (.H rfl) .j)) (Lj (k+2) w m)) (.u (.H rfl) (.u (.H rfl) (.u (.H rfl) (.u (.y (w:=.m (Int.ofNat w.g-3*l)) (.y (.H rfl) .d (w:=nv w.g) rfl) (.y .d (.H rfl) (w:=.m (3*l)) ?_) rfl) .j))))) rfl)⟩;show hZ GP .a [.m 3,t.2.2.2.2]=_;rw[A];exact if_pos ⟨by decide,eV B (by decide)⟩
def G7(k)(h:kq w)(E:x∈dM)(c:sy r)(D:Ln r.l):aa GP (k+4) 82 [.h r.p,.h w.v,.h x.c,.h (nv x.a)]= .oK (.h (T w x r).p,[]):=by
 cases c with
 | @j o m t l=>
  have B:o∈m8:=iI _ m;obtain⟨A,C⟩:=qX k w x (.tail _ B) D (.j o,nv t,.r,.r,.m l) ((rX w x (o,nv t,.r)).1,(rX w x (o,nv t,.r)).2,cT w x o .r) rfl;exact aO rfl rfl (Xs.I (l1:=[bk 82 0,bk 82 1]) (ax (VH k w.a w.b w.c w.f w.g w.d w.e x .r (.m l) t) o m:Rr k w x .r (.m l) _=_) (Xs.I (l1:=[bk 82 2]) (ax (Sx k w x (.j o,nv t,.r,.r,.m l) ((rX w x (o,nv t,.r)).1,(rX w x (o,nv t,.r)).2,.r)) o B) C)) rfl
 | @t q m l=>
  have B:=oj q m;obtain⟨A,C⟩:=qX k w x (.tail _ B) D (.j q.1,q.2.1,q.2.2,.r,.m l) ((rX w x q).1,(rX w x q).2,cT w x q.1 .r) rfl;exact aO rfl rfl (Xs.I (l1:=[bk 82 0,bk 82 1]) (VJ k h E .r (.m l) q m:Rr k w x .r (.m l) _=_) (Xs.I (l1:=[bk 82 2]) (ax (Sx k w x (.j q.1,q.2.1,q.2.2,.r,.m l) ((rX w x q).1,(rX w x q).2,.r)) q.1 B) C)) rfl
 | @s q m u mc l=>
  refine bZ m λz G F=>?_;obtain rfl:=F;obtain⟨a,b,c,d,e,f,g⟩:=w;obtain⟨A,C⟩:=qX k ⟨a,b,c,d,e,f,g⟩ x (.head _) D (.j bq,z,nv 0,u,.m l) ((rX ⟨a,b,c,d,e,f,g⟩ x (bq,z,nv 0)).1,(rX ⟨a,b,c,d,e,f,g⟩ x (bq,z,nv 0)).2,cT ⟨a,b,c,d,e,f,g⟩ x bq u) rfl;exact aO rfl rfl (Xs.I (l1:=[bk 82 0,bk 82 1]) (ax (ax (ax (Sz k a c f g d x u (.m l)) e (bN e)) b h.b) (bq,z,nv 0) (iI _ (iI _ (iI _ m)))) (Xs.I (l1:=[bk 82 2]) (ax (ax (ax (VC k a b c f g d e (.j bq,z,nv 0,u,.m l) (rX ⟨a,b,c,d,e,f,g⟩ x (bq,z,nv 0)).1 (rX ⟨a,b,c,d,e,f,g⟩ x (bq,z,nv 0)).2) f h.f) x E) u mc) C)) rfl
noncomputable def J8(a b:Sc):Bool:=match a with
 |.r=>(match b with |.r=>true |_ =>false)
 |.u x=>(match b with |.u y=>x==y |_ =>false)
 |.m x=>(match b with |.m y=>x==y |_ =>false)
 |.j x=>(match b with |.j y=>x==y |_ =>false)
 |.fn x=>(match b with |.fn y=>x==y |_ =>false)
def C'(h:J8 a b=true):a=b:=by
 cases a<;>cases b<;>first |rfl |cases h |exact congrArg _ (eq_of_beq h)
noncomputable def lq(f:AV->AV->Bool):List AV->List AV->Bool
 |[],l=>l.isEmpty
 |a::l,m=>match m with
  |[]=>false
  |b::m=>f a b&&lq f l m
noncomputable def aq:Nat->AV->AV->Bool
 |0,_,_ =>false
 |n+1,a,b=>match a with
  |.s x=>(match b with |.s y=>J8 x y |.n _ _ =>false)
  |.n k l=>(match b with |.s _ =>false |.n k' l'=>k==k'&&lq (aq n) l l')
def Ax(B:∀a b,f a b=true->a=b):∀{l m:List AV},lq f l m=true->l=m:=by
 intro l
 induction l with
 |nil=>intro m h;exact(List.isEmpty_iff.mp h).symm
 |cons a l C=>
  intro m h
  induction m using cF with
  |nil=>cases h
  |cons b m=>
   refine d3 h λD A=>?_;rw[B a b D,C A]
def g9(n):∀a b,aq n a b=true->a=b:=by
 induction n with
 |zero=>exact λa b h=>absurd h fO
 |succ n B=>
  intro a b h;cases a<;>cases b
  ·exact congrArg _ (C' h)
  ·cases h
  ·cases h
  ·refine d3 h λC A=>?_;rw[eq_of_beq C,Ax B A]
def ru(l:List Q3)(q:Q3):Bool:=l.any λp=>p.1==q.1&&(aq 1 p.2.1 q.2.1&&aq 1 p.2.2 q.2.2)
def eE(h:ru l q=true):q∈l:=by
 refine lu h λp m h=>?_;refine d3 h λB h=>?_;exact d3 h λA C=>((Prod.ext (eq_of_beq B) (Prod.ext (g9 1 _ _ A) (g9 1 _ _ C)):p=q)▸m)
def T3(w:WY)(x:CX)(q:Q3):Q3:=(vv w q.1,rX w x q)
noncomputable def Pl(a:AV)(n:Nat):Bool:=match a with
 |.s (.m i)=>i.toNat.blt n
 |_ =>false
noncomputable def As(a:AV):Nat:=match a with
 |.s (.m i)=>i.toNat
 |_ =>0
def AI(x:CX)(i:AV)(k:Nat):Bool:=Pl i x.a&&(As i==k)
def rl(x:CX)(tw:Bool)(q:Q3):Bool:=
 bif q.1==vl then false else
 bif (q.1==ip || q.1==i6)&&(As q.2.1==5)then false else
 bif q.1==gD || q.1==gC then Pl q.2.1 x.b.length&&Pl q.2.2 (x.b.getD (As q.2.1) 0)else
 bif q.1==bT then AI x q.2.1 (bif tw then 1 else 0)else
 bif q.1==vd then AI x q.2.2 (bif tw then 0 else 1)else true
def yY(x:CX)(tw:Bool)(c:AV):Bool:=match c with
 |.n _ [_,k]=>(match k with
  |.n _ [_,i]=>AI x i (bif tw then 1 else 0)
  |_ =>true)
 |_ =>true
def Cv(w:WY)(x:CX)(q:Q3):Bool:=ru eT (T3 w x q)&&(rl x true (T3 w x q)==rl x false q)
noncomputable def tt{A:Type}(_:A):Bool:=true
section
variable (a b c f g:Nat)(d e:Bool)(x:CX)
def cP:(dM.map λx=>bb.map λd=>[1,2,3,4,5].map λc=>zi.map (Cv ⟨a,b,c,d,e,f,g⟩ x))=dM.map λz=>bb.map λz=>[1,2,3,4,5].map λz=>zi.map tt:=by kernel_rfl
def cS:([0,1].map λa=>dM.map λx=>mX.map (Cv ⟨a,b,c,d,e,f,g⟩ x))=[0,1].map λz=>dM.map λz=>mX.map tt:=by kernel_rfl
def cN:(bb.map λe=>[1,2].map λb=>(zj++(vc++zk)).map (Cv ⟨a,b,c,d,e,f,g⟩ x))=bb.map λz=>[1,2].map λz=>(zj++(vc++zk)).map tt:=by kernel_rfl
def cL:(dM.map λx=>gX.map (Cv ⟨a,b,c,d,e,f,g⟩ x))=dM.map λz=>gX.map tt:=by kernel_rfl
def cD:(bb.map λe=>[1,2].map λb=>dM.map λx=>lM.map (Cv ⟨a,b,c,d,e,f,g⟩ x))=bb.map λz=>[1,2].map λz=>dM.map λz=>lM.map tt:=by kernel_rfl
def cO:([0,1,2].map λf=>xT.map (Cv ⟨a,b,c,d,e,f,g⟩ x))=[0,1,2].map λz=>xT.map tt:=by kernel_rfl
def cC:(bb.map λe=>[1,2].map λb=>mY.map λq=>ru mY (T3 ⟨a,b,c,d,e,f,g⟩ x q))=bb.map λz=>[1,2].map λz=>mY.map tt:=by kernel_rfl
def Yd:([0,1,2].map λf=>dM.map λx=>fu.map λu=>fu.any (aq 3 (cT ⟨a,b,c,d,e,f,g⟩ x bq u))&&(yY x true (cT ⟨a,b,c,d,e,f,g⟩ x bq u)==yY x false u))=[0,1,2].map λz=>dM.map λz=>fu.map tt:=by kernel_rfl
end
def MP(h:kq w)(A:x∈dM):∀q∈eT,Cv w x q=true:=by
 obtain⟨a,b,c,d,e,f,g⟩:=w;have B:=ax (ax (ax (cN a c f g d x) e (bN e)) b h.b);unfold eT;rw[g0,g0]at B;exact g0.mpr ⟨ax (ax (ax (ax (cP a b f g e) x A) d (bN d)) c h.c),g0.mpr ⟨ax (ax (ax (cS b c f g d e) a h.a) x A),g0.mpr ⟨B.1,g0.mpr ⟨B.2.1,g0.mpr ⟨B.2.2,g0.mpr ⟨ax (ax (cL a b c f g d e) x A),g0.mpr ⟨ax (ax (ax (ax (cD a c f g d) e (bN e)) b h.b) x A),ax (ax (cO a b c g d e x) f h.f)⟩⟩⟩⟩⟩⟩⟩
def ux(h:kq w)(D:x∈dM)(m:c∈fu):cT w x bq c∈fu/\yY x true (cT w x bq c)=yY x false c:=by
 obtain⟨a,b,B,d,e,f,g⟩:=w;refine d3 (ax (ax (ax (Yd a b B g d e) f h.f) x D) c m) λE A=>?_;exact lu E λu C e=>(⟨g9 3 _ _ e▸C,eq_of_beq A⟩)
def g5(m:q∈mY):q.1=bq:=by
 obtain⟨z,A,rfl⟩:=List.mem_map.mp m;rfl
def Gy(h:kq w)(x)(m:q∈mY):T3 w x q∈mY:=by
 obtain⟨a,b,c,d,e,f,g⟩:=w;exact eE (ax (ax (ax (cC a c f g d x) e (bN e)) b h.b) q m)
def rj{B:Type}(P:Tx->B)(w:WY)(o:Tx):∀L:List (Bool×Tx×Tx),(∀p∈L,P p.2.1=P p.2.2)->P (NG w o L)=P o:=by
 intro L
 induction L with
 |nil=>exact λz=>rfl
 |cons p L C=>
  intro h;have A:=h p (.head _);show P (bif _ then bif _ then _ else _ else bif _ then bif _ then _ else _ else NG w o L)=_;cases e1:p.2.1==o
  ·cases e2:p.2.2==o
   ·exact C λq m=>h q (.tail _ m)
   ·cases bif p.1 then w.d else w.e
    ·rfl
    ·exact A.trans (congrArg P (eq_of_beq e2))
  ·cases bif p.1 then w.d else w.e
   ·rfl
   ·exact A.symm.trans (congrArg P (eq_of_beq e1))
def kG(w:WY)(o:Tx):∀S∈SS,(S.any λy=>y==vv w o)=S.any λy=>y==o:=by
 exact λS m=>rj (λz=>S.any λy=>y==z) w o gj (ax (ax (by kernel_rfl:(SS.map λS=>gj.map λp=>S.any λy=>y==p.2.1)=SS.map λS=>gj.map λp=>S.any λy=>y==p.2.2) S m))
def xF(w)(x)(o):cT w x o .r= .r:=by
 unfold cT;cases o==bq<;>rfl
noncomputable def lm(w:WY)(l:Int):Int:=Int.ofNat w.g-3*l
def AK:∀o∈gS 4,(o==bq)=false:=by
 exact ax (by kernel_rfl:((gS 4).map λo=>o==bq)=(gS 4).map λz=>false)
def Jw(h:dB r=true):T w x r=⟨vv w r.op,r.a,r.b,r.c,lm w r.l⟩:=by
 unfold T
 rw[(by
  unfold rX
  rw[show du (r.op,r.a,r.b).1=true from h];rfl:rX w x (r.op,r.a,r.b)=(r.a,r.b)),(by
  unfold cT
  rw[AK _ (xd h)];rfl:cT w x r.op r.c=r.c)];rfl
def Rl(w:WY)(x:CX)(t:Nat)(l:Int):((gS 4).map λo=>T w x ⟨o,nv t,.r,.r,l⟩)=(gS 4).map λo=>⟨vv w o,nv t,.r,.r,lm w l⟩:=by kernel_rfl
def B5(w:WY)(x:CX)(l:Int):([bM,dQ].map λo=>T w x ⟨o,.r,.r,.r,l⟩)=[bM,dQ].map λo=>⟨o,.r,.r,.r,lm w l⟩:=by kernel_rfl
def Nc(a b c f g:Nat)(d e:Bool)(x:CX)(t:Nat)(l:Int):(bb.map λd=>(gS 11).map λo=>T ⟨a,b,c,d,e,f,g⟩ x ⟨ri o,nv t,.r,.r,l⟩)=bb.map λd=>(gS 11).map λo=>⟨ri (vv ⟨a,b,c,d,e,f,g⟩ o),nv t,.r,.r,lm ⟨a,b,c,d,e,f,g⟩ l⟩:=by kernel_rfl
def Rk(a b c f g:Nat)(d e:Bool):(bb.map λd=>[1,2,3,4,5].map λc=>(gS 11).map λo=>dP.map λv=>zh (Nw ⟨a,b,c,d,e,f,g⟩ v)==(vv ⟨a,b,c,d,e,f,g⟩ o==fR))=bb.map λz=>[1,2,3,4,5].map λz=>(gS 11).map λo=>dP.map λv=>zh v==(o==fR):=by kernel_rfl
def Gp(a b c f g:Nat)(d e:Bool):(bb.map λd=>[1,2,3,4,5].map λc=>dP.map λv=>dP.any (aq 1 (Nw ⟨a,b,c,d,e,f,g⟩ v)))=bb.map λz=>[1,2,3,4,5].map λz=>dP.map tt:=by kernel_rfl
def Nd(a b c f g:Nat)(d e:Bool):(bb.map λd=>rP.map λo=>rP.map λu=>vv ⟨a,b,c,d,e,f,g⟩ o==vv ⟨a,b,c,d,e,f,g⟩ u)=bb.map λz=>rP.map λo=>rP.map λu=>o==u:=by kernel_rfl
def DH(a b c f g:Nat)(d e:Bool):(bb.map λd=>rP.map λo=>decide (vv ⟨a,b,c,d,e,f,g⟩ o∈rP))=bb.map λz=>rP.map tt:=by kernel_rfl
def nK(h:aH [c5] (some r)=true):r.op=c5:=fJ (P:=λo=>o=c5) h (cu.mpr ⟨rfl,gy _⟩)
def B4(h:r.op=c5):(T w x r).a=Nw w r.a:=by
 obtain⟨o,a,b,c,l⟩:=r;cases h;rfl
def CG.T(c:CG r):(T w x r).a=r.a/\(T w x r).b= .r/\(T w x r).c= .r:=by
 cases hj:dB r
 ·obtain⟨A,B,C,ho⟩:=c;have A:r.a= .r:=A.elim id λh=>absurd (hj.symm.trans h.1) fO;obtain⟨o,a,b,c,l⟩:=r;cases A;cases B;cases C
  have:o∈[bM,dQ]:=by
   rcases iZ.mp ho with h |ho
   ·exact h▸.head _
   ·rcases iZ.mp ho with h |ho
    ·exact h▸.tail _ (.head _)
    ·exact absurd (hj.symm.trans (show du o=true from List.any_eq_true.mpr ⟨o,ho,beq_self_eq_true o⟩)) fO
  rw[(ax (B5 w x l) o this)];exact⟨rfl,rfl,rfl⟩
 ·rw[Jw hj];exact⟨rfl,c.b,c.c⟩
def tp{w:WY}(h:kq w){x:CX}(D:x∈dM):TP (T w x) (lm w)where
 g S m r:=kG w r.op S m
 a r A:=by rw[Jw A]
 E r t A:=by rw[Jw A,Jw (r:={r with a:=nv t}) A]
 l _ :=rfl
 S6 t l:=ax (Rl w x t l) bc (.head _)
 S5 l:=ax (B5 w x l) bM (.head _)
 S4 l:=ax (B5 w x l) dQ (.tail _ (.head _))
 ri r t hb:=by
  obtain⟨a,b,c,d,e,f,g⟩:=w;exact ax (ax (Nc a b c f g d e x t r.l) d (bN d)) r.op (fJ (P:=λo=>o∈gS 11) hb λz m=>m)
 tk u r hb C hw:=by
  obtain⟨a,b,c,d,e,f,g⟩:=w
  show(zh (T _ x r).a==_)=_
  rw[B4 (nK C)];exact ax (ax (ax (ax (Rk a b c f g d e) d (bN d)) c h.c) u.op (fJ (P:=λo=>o∈gS 11) hb λz m=>m)) r.a hw
 gd n r _ g:=by
  refine⟨λA=>?_,λC=>?_⟩
  ·have A:dB r=true:=(kG w r.op _ (.head _)).symm.trans A;rw[Jw A];exact g.1 A
  ·have E:aH [c5] (some r)=true:=(kG w r.op [c5] (by decide+kernel)).symm.trans C;rw[B4 (nK E)];obtain⟨a,b,c,d,e,f,G⟩:=w;exact lu (ax (ax (ax (Gp a b c f G d e) d (bN d)) c h.c) r.a (g.2 E)) λu B e=>(g9 1 _ _ e▸B)
 al r k:=by
  rcases k with k |k
  ·refine .inl ?_;obtain⟨o,a,b,c,l⟩:=r;rcases gM.mp k with k |k
   ·refine bZ k λq m e=>?_;cases e
    exact pq _ (List.mem_map.mpr ⟨T3 w x q,eE (jo.mp (MP h D q m)).1,by
     show(_,_,_,_)=(_,_,_,cT w x q.1 .r)
     rw[xF];rfl⟩)
   ·obtain⟨q,m,k⟩:=List.mem_flatMap.mp k;refine bZ k λu B e=>?_;cases e;have:=(ux h D B).1;rw[<-g5 m]at this;exact iI _ (List.mem_flatMap.mpr ⟨T3 w x q,Gy h x m,List.mem_map.mpr ⟨_,this,rfl⟩⟩)
  ·have c:=k.T (w:=w) (x:=x);obtain⟨a,b,F,d,e,f,g⟩:=w;refine .inr ⟨?_,c.2.1,c.2.2,of_decide_eq_true (ax (ax (DH a b F f g d e) d (bN d)) r.op k.op)⟩;rw[c.1];exact k.a.imp id λq=>⟨(kG _ r.op _ (.head _)).trans q.1,q.2⟩
 e r k:=k.T
 q r y k j:=by
  obtain⟨a,b,c,d,e,f,g⟩:=w;exact ax (ax (ax (Nd a b c f g d e) d (bN d)) r.op k.op) y.op j.op
def Wj(k a c f g:Nat)(d:Bool):(bb.map λe=>[1,2].map λb=>df.map λy=>aa GP (k+2) 77 [.h (.j y),.h (WY.v ⟨a,b,c,d,e,f,g⟩)])=bb.map λe=>[1,2].map λb=>df.map λy=>.oK (.h (.j (ye ⟨a,b,c,d,e,f,g⟩ y)),[]):=by kernel_rfl
def Lm(k)(h:kq w):∀y∈df,aa GP (k+2) 77 [.h (.j y),.h w.v]= .oK (.h (.j (ye w y)),[]):=by
 obtain⟨a,b,c,d,e,f,g⟩:=w;exact ax (ax (ax (Wj k a c f g d) e (bN e)) b h.b)
def fw:List Tx:=[sY,sZ,pJ]
def Vh(k a b c g:Nat)(d e:Bool):([0,1,2].map λf=>fw.map λy=>aa GP (k+1) 80 [.h (.j y),.h (WY.v ⟨a,b,c,d,e,f,g⟩)])=[0,1,2].map λf=>fw.map λy=>.oK (.h (.j (si ⟨a,b,c,d,e,f,g⟩ y)),[]):=by kernel_rfl
def J1(k)(h:kq w):∀y∈fw,aa GP (k+1) 80 [.h (.j y),.h w.v]= .oK (.h (.j (si w y)),[]):=by
 obtain⟨a,b,c,d,e,f,g⟩:=w;exact ax (ax (Vh k a b c g d e) f h.f)
structure HP where
 f:Tx
 name:Tx
 params:Tx
 slots:List Tx
def HP.hd(p:HP)(K:List AV):HD:=⟨.j p.f,.j p.name,.j p.params,.aj (p.slots.map .j),K⟩
def aP:Tx:=yV
def a_:Tx:=x7
noncomputable def vn(n:Nat)(l:List Tx):List Tx:=l.drop (l.length-n)++l.take (l.length-n)
def HT(w:WY)(p:HP):HP:=⟨p.f,ye w p.name,ye w p.params,(vn (p.slots.length-1-w.a%(p.slots.length-1)) p.slots).map (ye w)⟩
inductive Hx:HP->CX->AV->Prop
 |d {n p a b:Tx}:Hx ⟨aP,n,p,[a,b]⟩ ⟨[2,3],0⟩ (.aj [nv 3])
 |e {kd n p a b c:Tx} {m:Nat} {o:AV} (h:kd∈[a_,bT]):Hx ⟨kd,n,p,[a,b,c]⟩ ⟨[3],m⟩ o
noncomputable def Uq(w:WY)(p:HP):Nat:=p.slots.length-1-w.a%(p.slots.length-1)
def DF(w:WY)(p:HP)(x:CX)(o:AV)(v:AV)(L C S K:List AV)(t:List SV):List SV:=.h v::.h w.v::.h o::.h (.j p.f)::.h (.j p.name)::.h (.j p.params)::.h (.aj (p.slots.map .j))::.h (.aj L)::.h (.aj C)::.h (.aj S)::.h (.aj K)::.h x.c::.h (nv (Uq w p))::t
def Fs(p:HP)(L C S K:List AV):AV:=.aj [.j p.f,.j p.name,.j p.params,.aj (p.slots.map .j),.aj L,.aj C,.aj S,.aj K]
noncomputable def Se:List SV:=[.a,.a,.a,.a,.a,.a,.a,.a,.a,.a,.a,.a]
def Ci(w:WY)(p:HP):List Tx:=p.name::p.params::vn (Uq w p) p.slots
def Ia:IE:=.p [.p [.l [.r 4,.r 5],.op (.f true false) [.r 6,.op .l [.r 12]]],.op (.f false true) [.r 6,.op .l [.r 12]]]
noncomputable def Dt(l:List AV):List AV:=l.drop 1++l.take 1
inductive K2:List AV->Nat->Prop
 |j:K2 [] 0
 |two {a b:AV}:K2 [a,b] 2
def K2.E(h:K2 M m):M.length=m:=by cases h<;>rfl
def NC(w:WY)(p:HP)(x:CX)(o:AV)(L C S K:List AV)(a b:AV)(M:List AV):List SV:=DF w p x o (Fs p L C S K) L C S K [.h a,.h b,.h (.aj M),.h (.aj (((Ci w p).map (ye w)).map .j)),.a,.a,.a,.a,.a,.a,.a,.a]
def N4(w:WY)(p:HP)(x:CX)(o:AV)(L C S K:List AV)(a b c:AV)(d:SV):List SV:=DF w p x o (Fs p L C S K) L C S K [.h a,.h b,.h c,.a,.a,.a,.a,.a,.a,.a,.a,d]
structure Rv(n:Nat)(w:WY)(p:HP)(x:CX)(o:AV)(L C S K:List AV):Prop where
 r1:aG GP (aa GP n) [bk 83 0,bk 83 1] (env0 83 [.h (Fs p L C S K),.h w.v,.h o])= .oK (.a,DF w p x o (Fs p L C S K) L C S K Se)
 r2:∀a b c d,ev GP (aa GP n) Ia (N4 w p x o L C S K a b c d)= .oK (.aj ((Ci w p).map .j),N4 w p x o L C S K a b c d)
 r3:∀A B M,K2 M x.a->aG GP (aa GP n) [bk 83 6] (NC w p x o L C S K (.aj A) (.aj B) M)= .oK (.C (.h (Fs (HT w p) A B S (Dt M))),NC w p x o L C S K (.aj A) (.aj B) M)
def OT(k:Nat)(b c f g:Nat)(d e:Bool)(n p s t:Tx)(L C S K:List AV):∀a∈[0,1],Rv (k+2) ⟨a,b,c,d,e,f,g⟩ ⟨aP,n,p,[s,t]⟩ ⟨[2,3],0⟩ (.aj [nv 3]) L C S K:=cu.mpr ⟨⟨by kernel_rfl,λz z z z=>by kernel_rfl,λA B M h=>by cases h;kernel_rfl⟩,cu.mpr ⟨⟨by kernel_rfl,λz z z z=>by kernel_rfl,λA B M h=>by cases h;kernel_rfl⟩,gy _⟩⟩
def OR(k:Nat)(b c f g m:Nat)(d e:Bool)(n p s t u:Tx)(o:AV)(L C S K:List AV):∀kd∈[a_,bT],∀a∈[0,1],Rv (k+2) ⟨a,b,c,d,e,f,g⟩ ⟨kd,n,p,[s,t,u]⟩ ⟨[3],m⟩ o L C S K:=by
 have E:∀kd,∀a∈[0,1],(∀A B M,K2 M m->aG GP (aa GP (k+2)) [bk 83 6] (NC ⟨a,b,c,d,e,f,g⟩ ⟨kd,n,p,[s,t,u]⟩ ⟨[3],m⟩ o L C S K (.aj A) (.aj B) M)= .oK (.C (.h (Fs (HT ⟨a,b,c,d,e,f,g⟩ ⟨kd,n,p,[s,t,u]⟩) A B S (Dt M))),NC ⟨a,b,c,d,e,f,g⟩ ⟨kd,n,p,[s,t,u]⟩ ⟨[3],m⟩ o L C S K (.aj A) (.aj B) M))/\∀x y z v,ev GP (aa GP (k+2)) Ia (N4 ⟨a,b,c,d,e,f,g⟩ ⟨kd,n,p,[s,t,u]⟩ ⟨[3],m⟩ o L C S K x y z v)= .oK (.aj ((Ci ⟨a,b,c,d,e,f,g⟩ ⟨kd,n,p,[s,t,u]⟩).map .j),N4 ⟨a,b,c,d,e,f,g⟩ ⟨kd,n,p,[s,t,u]⟩ ⟨[3],m⟩ o L C S K x y z v):=λkd=>cu.mpr ⟨⟨λA B M h=>by cases h<;>kernel_rfl,λq q q q=>by kernel_rfl⟩,cu.mpr ⟨⟨λA B M h=>by cases h<;>kernel_rfl,λq q q q=>by kernel_rfl⟩,gy _⟩⟩;exact λkd F a D=>⟨ax (ax (by kernel_rfl:([a_,bT].map λkd=>[0,1].map λa=>aG GP (aa GP (k+2)) [bk 83 0,bk 83 1] (env0 83 [.h (Fs ⟨kd,n,p,[s,t,u]⟩ L C S K),.h (WY.v ⟨a,b,c,d,e,f,g⟩),.h o]))=[a_,bT].map λkd=>[0,1].map λa=>.oK (.a,DF ⟨a,b,c,d,e,f,g⟩ ⟨kd,n,p,[s,t,u]⟩ ⟨[3],m⟩ o (Fs ⟨kd,n,p,[s,t,u]⟩ L C S K) L C S K Se)) kd F) a D,(E kd a D).2,(E kd a D).1⟩
def Vz(k)(h:kq w)(A:Hx p x o)(L C S K):Rv (k+2) w p x o L C S K:=by
 obtain⟨a,b,c,d,e,f,g⟩:=w
 cases A with
 |d=>exact OT k b c f g d e _ _ _ _ L C S K a h.a
 | @e kd n p s t u m o hk=>exact OR k b c f g m d e n p s t u o L C S K kd hk a h.a
set_option maxHeartbeats 2000000 in
def vo(k)(h:kq w)(G:x∈dM)(I:Hx p x o)(M:∀y∈Ci w p,y∈df)(B)(D:∀r∈B.ag,sy r/\Ln r.l)(F:∀q∈B.aL,q.s∈fw)(A:List (AV×AV))(C:K2 (A.map Prod.snd) x.a)(E:∀q∈A,aa GP (k+4) 83 [.h q.1,.h w.v,.h x.c]= .oK (.h q.2,[])):aa GP (k+5) 83 [.h (pv (p.hd (A.map Prod.fst)) B),.h w.v,.h o]= .oK (.h (pv ((HT w p).hd (Dt (A.map Prod.snd))) (BT (T w x) (si w) B)),[]):=by
 have R:=Vz (k+2) h I (B.ag.map RD.p) (B.aL.map CT.p) (B.aB.map nv) (A.map Prod.fst)
 have H:(A.map Prod.fst).length=x.a:=by
  rw[cz,<-C.E,cz]
 have L:=Ev.X (n:=k+4) (j:=SV.a) (λj=>DF w p x o (pv (p.hd (A.map Prod.fst)) B) (B.ag.map RD.p) (B.aL.map CT.p) (B.aB.map nv) (A.map Prod.fst) [.a,.a,.a,.a,j,.a,.a,.a,.a,.a,.a,.a]) RD.p RD.p (T w x) (tg:=[17]) (tup:=false) (k:=.h) (elt:=.h 82 [.r 17,.r 1,.r 11,.n [.r 10]]) (es:=[.r 7]) (.u (.H rfl) .j) rfl (λz=>rfl) λr m j=>⟨.h r.p,rfl,.K (.u (.H rfl) (.u (.H rfl) (.u (.H rfl) (.u (by have:=Ev.E (n:=k+4) (e:=.r 10) (l:=A.map Prod.fst) (ah:=DF w p x o (pv (p.hd (A.map Prod.fst)) B) (B.ag.map RD.p) (B.aL.map CT.p) (B.aB.map nv) (A.map Prod.fst) [.a,.a,.a,.a,.h r.p,.a,.a,.a,.a,.a,.a,.a]) (.H rfl);rw[H]at this;exact this) .j)))) (G7 k h G (D r m).1 (D r m).2)⟩;exact aO rfl rfl (Xs.I (l1:=[bk 83 0,bk 83 1]) R.r1 (.u (.h L rfl) (.u (.h (Ev.X (n:=k+4) (j:=(SV.a,SV.a,SV.a,SV.a,SV.a)) (λj=>DF w p x o (pv (p.hd (A.map Prod.fst)) B) (B.ag.map RD.p) (B.aL.map CT.p) (B.aB.map nv) (A.map Prod.fst) [.h (.aj ((B.ag.map (T w x)).map RD.p)),.a,.a,.a,.a,j.1,j.2.1,j.2.2.1,j.2.2.2.1,j.2.2.2.2,.a,.a]) CT.p CT.p (λq=>{q with s:=si w q.s}) (tg:=[18,19,20,21,22]) (tup:=true) (k:=.h) (elt:=.u [.h 80 [.r 18,.r 1],.r 19,.r 20,.r 21,.r 22]) (es:=[.r 8]) (.u (.H rfl) .j) rfl (λz=>rfl) λq m j=>⟨(.h (.j q.s),.h (nv q.f),.h (nv q.la),.h (nv q.t),.h (.m q.d)),rfl,.op (.u (.K (.u (.H rfl) (.u (.H rfl) .j)) (J1 (k+3) h q.s (F q m))) (.u (.H rfl) (.u (.H rfl) (.u (.H rfl) (.u (.H rfl) .j))))) rfl⟩) rfl) (.u (.h (Ev.kids (n:=k+4) (j:=SV.a) (tg:=23) (λj=>DF w p x o (pv (p.hd (A.map Prod.fst)) B) (B.ag.map RD.p) (B.aL.map CT.p) (B.aB.map nv) (A.map Prod.fst) [.h (.aj ((B.ag.map (T w x)).map RD.p)),.h (.aj ((BT (T w x) (si w) B).aL.map CT.p)),.a,.a,.a,.a,.a,.a,.a,.a,j,.a]) (e:=.r 10) (elt:=.h 83 [.r 23,.r 1,.r 11]) (.H rfl) (λz=>rfl) λq m j=>⟨.h q.1,rfl,.K (.u (.H rfl) (.u (.H rfl) (.u (.H rfl) .j))) (E q m)⟩) rfl) (.u (.h (Ev.X (n:=k+4) (j:=SV.a) (λj=>DF w p x o (pv (p.hd (A.map Prod.fst)) B) (B.ag.map RD.p) (B.aL.map CT.p) (B.aB.map nv) (A.map Prod.fst) [.h (.aj ((B.ag.map (T w x)).map RD.p)),.h (.aj ((BT (T w x) (si w) B).aL.map CT.p)),.h (.aj (A.map Prod.snd)),.a,.a,.a,.a,.a,.a,.a,.a,j]) AV.j AV.j (ye w) (tg:=[24]) (tup:=false) (k:=.h) (elt:=.h 77 [.r 24,.r 1]) (es:=[Ia]) (l:=Ci w p) (.u (R.r2 _ _ _ _) .j) rfl (λz=>rfl) λy m j=>⟨.h (.j y),rfl,.K (.u (.H rfl) (.u (.H rfl) .j)) (Lm (k+2) h y (M y m))⟩) rfl) (R.r3 _ _ _ C)))))) rfl
def len_from(m:Nat):∀(A:List Str) (k:Nat) (acc:Str),(∀t∈A,t.length<=m)->(textFrom k acc A).length<=acc.length+A.length*(m+2):=by
 intro A
 induction A with
 |nil=>exact λk acc z=>eN _ _
 |cons t r C=>
  intro k acc h;refine az (C (k+1) _ λy B=>h y (.tail _ B)) ?_;rw[strLen_append,strLen_append,List.length_cons,Nat.succ_mul];have D:=h t (.head _)
  have F:(if k>0 then ", " else "" :String).utf8ByteSize<=2:=by split<;>decide
  have E:((if k>0 then ", " else "" :String):Str).length<=2:=by split<;>decide
  exact UG D E
def Az(m):∀A:List Str,(∀t∈A,t.length<=m)->(Str.join ", " A).length<=A.length*(m+2):=by
 intro A
 induction A with
 |nil=>exact λz=>da _
 |cons t r D=>
  intro h;have B:=h t (.head _);have i:=D λy C=>h y (.tail _ C)
  induction r using cF with
  |nil=>exact az B (by rw[qa,Nat.one_mul];exact eN _ _)
  |cons u r=>
   show(t++", "++Str.join ", " (u::r)).length<=_
   rw[strLen_append,strLen_append,List.length_cons,Nat.succ_mul];exact UC B i rfl
def PD.all(h:∀a∈l,PD k m a):cb l=some (l.map i9)/\PyData.depthAll (l.map i9)<=k/\PyData.canLayAll0 (l.map i9)=true/\PyData.showableAll (l.map i9)=true/\∀t∈PyData.shownAll (l.map i9),t.length<=m:=by
 induction l with
 |nil=>exact⟨rfl,da _,rfl,rfl,gy _⟩
 |cons a l B=>
  have i:=B λx A=>h x (.tail _ A);have p:=h a (.head _);exact⟨gw p i.1,Nat.max_le.mpr ⟨p.dep,i.2.1⟩,jo.mpr ⟨p.lay,i.2.2.1⟩,jo.mpr ⟨p.b,i.2.2.2.1⟩,cu.mpr ⟨p.E,i.2.2.2.2⟩⟩
def qf(l):(PyData.shownAll l).length=l.length:=by
 induction l with
 |nil=>rfl
 |cons a l A=>exact congrArg (· +1) A
def PD.aj(h:∀a∈l,PD k m a)(B:l.length<=N):PD (k+1) (N*(m+2)+2) (.aj l):=by
 obtain⟨D,A,E,F,C⟩:=PD.all h
 have e:(AV.aj l).data=some (.list (l.map i9)):=by
  show(cb l).bind _=_
  rw[D];rfl
 have d:i9 (.aj l)= .list (l.map i9):=by unfold i9;rw[e];rfl
 refine⟨d▸e,d▸eU A,d▸E,d▸F,d▸?_⟩
 show(listText (PyData.shownAll (l.map i9))).length<=_
 unfold listText;rw[strLen_append]
 have:=len_from m _ 0 "[" C
 rw[qf,cz]at this;exact UD this rfl rfl (Nat.mul_le_mul_right (m+2) B)
def PD.tup(h:∀a∈l,PD k m a)(C:l.length<=N):PD (k+1) (N*(m+2)+3) (.tup l):=by
 obtain⟨E,A,F,G,D⟩:=PD.all h
 have e:(AV.tup l).data=some (.tuple (l.map i9)):=by
  show(cb l).bind _=_
  rw[E];rfl
 have d:i9 (.tup l)= .tuple (l.map i9):=by unfold i9;rw[e];rfl
 refine⟨d▸e,d▸eU A,d▸F,d▸G,d▸?_⟩
 show(tupleText (PyData.shownAll (l.map i9))).length<=_
 unfold tupleText;rw[strLen_append,strLen_append];have:=Az m _ D;rw[qf,cz]at this
 have B:((if(PyData.shownAll (l.map i9)).length==1 then ",)" else ")" :String):Str).length<=2:=by split<;>decide
 exact UE (az this (Nat.mul_le_mul_right (m+2) C)) rfl B
def PD.mono(h:PD k m a)(C:k<=B)(A:m<=D):PD B D a:=⟨h.d,az h.dep C,h.lay,h.b,az h.E A⟩
def PD.repr(h:PD k m a)(B:k<=50)(A:m<=1000000):wY a=some (.j (i9 a).shown):=by
 unfold wY;rw[h.d];exact if_pos ⟨h.b,az h.dep B,az h.E A⟩
def Li(N:Nat)(l:Int):Prop:= ∃j,j<=N/\l=Int.ofNat j
def Li.ln(h:Li 60 l):Ln l:=by
 obtain⟨j,h,rfl⟩:=h;exact az h (by decide)
def kq.line(h:kq w)(C:Li 60 l):Li 400 (lm w l):=by
 obtain⟨j,B,rfl⟩:=C;obtain⟨D,A⟩:=List.mem_range'_1.mp h.g;exact⟨w.g-3*j,az (Nat.sub_le _ _) (fj A),by unfold lm;simp only[Int.ofNat_eq_natCast];exact(Int.ofNat_sub (az (Nat.mul_le_mul_left 3 B) (az (by decide) D))).symm⟩
def lR:∀j,j<=400->PD 0 24 (nv j):=by
 exact λj h=>.of (ax (by kernel_rfl:((List.range 401).map λj=>Fv 0 24 (nv j))=(List.range 401).map tt) j (List.mem_range.mpr (Nat.lt_succ_of_le h)))
def rf:∀x∈[aP,a_,bT]++(fw++df),PD 0 24 (.j x):=by
 exact λx m=>.of (ax (by kernel_rfl:(([aP,a_,bT]++(fw++df)).map λx=>Fv 0 24 (.j x))=([aP,a_,bT]++(fw++df)).map tt) x m)
structure yR(p:HP):Prop where
 f:p.f∈[aP,a_,bT]
 nm:∀y∈p.name::p.params::p.slots,y∈df
 sl:p.slots.length<=3
structure sA(N:Nat)(B:BD):Prop where
 wf:WF B
 ln:∀r∈B.ag,Li N r.l
 cs:∀q∈B.aL,q.s∈fw/\Li 20 q.d
def sA.sm(h:sA N B)(w:WF C)(s:Sm B C):sA N C:=⟨w,λr m=>by
 obtain⟨y,A,e⟩:=s.ln r m
 exact e▸h.ln y A,λq m=>by
 obtain⟨y,A,e,D⟩:=s.cs q m
 exact e▸D▸h.cs y A⟩
def sA.cls(h:sA N B):∀r∈B.ag,sy r:=λr m=>(h.wf.al r m).cls (h.wf.ag r m)
def zy(h:kq w):∀s∈fw,si w s∈fw:=by
 obtain⟨a,b,c,d,e,f,g⟩:=w;exact λs m=>of_decide_eq_true (ax (ax (by kernel_rfl:([0,1,2].map λf=>fw.map λs=>decide (si ⟨a,b,c,d,e,f,g⟩ s∈fw))=[0,1,2].map λz=>fw.map tt) f h.f) s m)
def Hh(h:kq w):∀s∈df,ye w s∈df:=by
 obtain⟨a,b,c,d,e,f,g⟩:=w;exact λs m=>of_decide_eq_true (ax (ax (ax (by kernel_rfl:(bb.map λe=>[1,2].map λb=>df.map λs=>decide (ye ⟨a,b,c,d,e,f,g⟩ s∈df))=bb.map λz=>[1,2].map λz=>df.map tt) e (bN e)) b h.b) s m)
def sA.T(h:kq w)(D:x∈dM)(b:sA 60 B):sA 400 (BT (T w x) (si w) B):=⟨(tp h D).wf _ b.wf,λr m=>by
 refine bZ m λy A C=>?_;obtain rfl:=C
 exact h.line (b.ln y A),λq m=>by
 refine bZ m λy A C=>?_;obtain rfl:=C
 exact⟨zy h _ (b.cs y A).1,(b.cs y A).2⟩⟩
def Ds{P:Tx->Prop}(h:∀y∈l,P y):∀y∈vn n l,P y:=g0.mpr ⟨λy m=>h y (List.mem_of_mem_drop m),λy m=>h y (List.mem_of_mem_take m)⟩
def yR.Ci(h:yR p)(w):∀y∈Ci w p,y∈df:=
 cu.mpr ⟨h.nm _ (.head _),cu.mpr ⟨h.nm _ (.tail _ (.head _)),Ds λy m=>h.nm y (.tail _ (.tail _ m))⟩⟩
def yR.T(k:kq w)(h:yR p):yR (HT w p):=by
 refine⟨h.f,λy m=>?_,?_⟩
 ·exact(λz A=>by
   refine bZ A λu B C=>?_;obtain rfl:=C
   exact Hh k u ((h.Ci w) u B):∀z∈List.map (ye w) (Mq.Ci w p),z∈df) y m
 ·show((vn _ p.slots).map (ye w)).length<=3
  rw[cz];unfold vn;rw[dc,List.length_drop,List.length_take];exact az (az (i0 (Nat.min_le_left _ _) _) (Nat.le_of_eq (Nat.sub_add_cancel (Nat.sub_le _ _)))) (h.sl)
def sA.b(h:yR p)(b:sA 400 B)(I:∀a∈K,PD k m a)(M:K.length<=2)(H:4<=k)(E:2160<=2*(m+2)):PD (k+2) (8*(2*(m+2)+4)+2) (pv (p.hd K) B):=by
 have t:∀x∈[aP,a_,bT]++(fw++df),PD (k+1) (2*(m+2)+2) (.j x):=λx L=>(rf x L).mono (da _) (zF E rfl);have n:∀y∈df,PD (k+1) (2*(m+2)+2) (.j y):=λy F=>t y (iI _ (iI _ F))
 exact PD.aj (cu.mpr ⟨t _ (pq _ h.f),cu.mpr ⟨n _ (h.nm _ (.head _)),cu.mpr ⟨n _ (h.nm _ (.tail _ (.head _))),cu.mpr ⟨((PD.aj (k:=0) (m:=24) (N:=3) (λa A=>by
  refine bZ A λy F C=>?_;obtain rfl:=C
  exact rf y (iI _ (iI _ (h.nm y (.tail _ (.tail _ F)))))) (by rw[cz];exact h.sl)).mono (gY _ _) (zF E rfl):PD (k+1) (2*(m+2)+2) (.aj (p.slots.map .j))),cu.mpr ⟨((PD.aj (k:=4) (m:=133) (N:=16) (λa A=>by
  refine bZ A λr D C=>?_;obtain rfl:=C;have q:=b.wf.b D;obtain⟨j,G,e⟩:=b.ln r D;refine PD.tup (k:=3) (m:=24) (N:=5) ?_ (fh 5)
  exact cu.mpr ⟨q.op.mono (da _) (fh _),cu.mpr ⟨q.a,cu.mpr ⟨q.b,cu.mpr ⟨q.c,cu.mpr ⟨by rw[e];exact(lR j G).mono (da _) (fh _),gy _⟩⟩⟩⟩⟩) (by rw[cz];exact b.wf.E)).mono (eU H) (qb E 2):PD (k+1) (2*(m+2)+2) (.aj (B.ag.map RD.p))),cu.mpr ⟨((PD.aj (k:=1) (m:=133) (N:=4) (λa A=>by
  refine bZ A λr D C=>?_;obtain rfl:=C;have q:=b.wf.aL r D;have z:=b.wf.E;obtain⟨O,j,G,e⟩:=b.cs r D;refine PD.tup (k:=0) (m:=24) (N:=5) ?_ (fh 5)
  exact cu.mpr ⟨rf _ (iI _ (pq _ O)),cu.mpr ⟨lR _ (Cf q.1 z rfl),cu.mpr ⟨lR _ (Cf q.2.1 z rfl),cu.mpr ⟨lR _ (Cf (fj q.2.2) z rfl),cu.mpr ⟨by rw[e];exact lR j (zT G rfl),gy _⟩⟩⟩⟩⟩) (by rw[cz];exact b.wf.g)).mono (eU (az (by decide) H)) (zF E rfl):PD (k+1) (2*(m+2)+2) (.aj (B.aL.map CT.p))),cu.mpr ⟨((PD.aj (k:=0) (m:=24) (N:=8) (λa A=>by
  refine bZ A λr D C=>?_;obtain rfl:=C
  exact lR _ (Cf (fj (b.wf.aB r D)) (b.wf.E) rfl)) (by rw[cz];exact b.wf.qL)).mono (gY _ _) (zF E rfl):PD (k+1) (2*(m+2)+2) (.aj (B.aB.map nv))),cu.mpr ⟨PD.aj I M,gy _⟩⟩⟩⟩⟩⟩⟩⟩) (fh 8)
noncomputable def sf(C sn:AV)(D W:List AV):SV:=.e 5 [.v C,.v sn,.o D,.o W]
section
variable {n:Nat}{C sn:AV}{D W:List AV}{rest:List SV}
def Ev.Uu(h:Ev n (sf C sn D W::rest) e (nv p))(A:D[p]? =some w):Ev n (sf C sn D W::rest) (.at 0 (some (5,2)) e) w:=by
 show(ev GP (aa GP n) e (sf C sn D W::rest)).i _=_
 rw[show ev GP (aa GP n) e _=_ from h]
 show(aD.d ((b_ D.length (Int.ofNat p)).bind λk=>D[k]?)).i _=_
 rw[qC A];rfl
def Ex.H(E:Ev n (sf C sn D W::rest) e v)(B:Ev n (sf C sn D W::rest) i (nv p))(A:p<D.length):Ex n (sf C sn D W::rest) (.set 0 (some (5,2)) i e) (sf C sn (D.set p v) W::rest):=by
 show(ev GP (aa GP n) e (sf C sn D W::rest)).i _=_
 rw[show ev GP (aa GP n) e _=_ from E]
 show((ev GP (aa GP n) i (sf C sn D W::rest)).i _).i _=_
 rw[show ev GP (aa GP n) i _=_ from B]
 show((aD.d (b_ D.length (Int.ofNat p))).i _).i _=_
 unfold b_;rw[if_pos (show 0<=Int.ofNat p from Int.natCast_nonneg p),if_pos (show(Int.ofNat p).toNat<D.length from A)];rfl
def Ex.G(B:Ev n (sf C sn D W::rest) e v)(A:W.length<10000):Ex n (sf C sn D W::rest) (.I 0 (some (5,3)) e) (sf C sn D (W++[v])::rest):=by
 show(ev GP (aa GP n) e (sf C sn D W::rest)).i _=_
 rw[show ev GP (aa GP n) e _=_ from B]
 show(if W.length<10000 then _ else _)=_
 rw[if_pos A];rfl
end
noncomputable def rO{σ:Type}(E:σ->List SV):Option σ->aD (Fl×List SV)
 |some s=>.oK (.a,E s)
 |none=>.bG
def oR{σ:Type}(S:σ->SV):Option σ->aD (SV×List SV)
 |some s=>.oK (.h .r,[S s])
 |none=>.bG
def Xs.p(h:eG GP (aa GP n) s ah=rO E o)(A:∀s,o=some s->Xs n (E s) l (rO B (g s))):Xs n ah (s::l) (rO B (o.bind g)):=by
 show(eG GP (aa GP n) s ah).i _=_
 rw[h]
 induction o using aF with
 |none=>rfl
 |some s=>exact A s rfl
def h_(h:Ev n ah t (bv b))(h1:Xs n ah (bif b then c else d) r):eG GP (aa GP n) (.d t c d) ah=r:=by
 show(ev GP (aa GP n) t ah).i _=_
 rw[show ev GP (aa GP n) t ah=_ from h]
 induction b using aR<;>exact h1
def Xs.dI{n:Nat}{ah:List SV}{s:IS}{σ:Type}{E:σ->List SV}{o:Option σ}(h:eG GP (aa GP n) s ah=rO E o):Xs n ah [s] (rO E o):=by
 show(eG GP (aa GP n) s ah).i _=_
 rw[h];cases o<;>rfl
def sN{σ:Type}{n f:Nat}{C sn:AV}{D W:List AV}{rest:List SV}{es:List IE}{vs:List AV}{S:σ->SV}{o:Option σ}(h:mW n (sf C sn D W::rest) es vs)(A:aa GP n f (sf C sn D W::vs.map .h)=oR S o):eG GP (aa GP n) (.ex (.K (.sm 3 f) [0] es)) (sf C sn D W::rest)=rO (λs=>S s::rest) o:=by
 show((bu GP (aa GP n) es (sf C sn D W::rest)).i _).i _=_
 rw[show bu GP (aa GP n) es _=_ from h]
 show(((aa GP n f (sf C sn D W::vs.map .h)).i _).i _).i _=_
 rw[A];cases o<;>rfl
def kK{σ:Type}{n f:Nat}{args:List SV}{E:σ->List SV}{S:σ->SV}{o:Option σ}(C:GP.fns f=some (fd f))(A:(args.length.ble (fd f).2.1&&(fd f).2.1.ble (args.length+(fd f).2.2.1.length))=true)(h:Xs n (env0 f args) (fd f).1 (rO E o))(B:∀s,jq (fd f).2.2.2.2 (E s)=[S s]):aa GP (n+1) f args=oR S o:=by
 show(aD.d (GP.fns f)).i _=_
 rw[C]
 show(if args.length<=(fd f).2.1/\(fd f).2.1<=args.length+(fd f).2.2.1.length then(aG GP (aa GP n) (fd f).1 (env0 f args)).i _ else _)=_
 rw[Bool.and_eq_true,Nat.ble_eq,Nat.ble_eq]at A;rw[if_pos A,show aG GP (aa GP n) (fd f).1 (env0 f args)=_ from h]
 induction o using aF with
 |none=>rfl
 |some s=>exact congrArg (λz=>aD.oK (_,z)) (B s)
def Gw:∀p,p<=100->(Str.ofString (toString (Int.ofNat p))).length<=10:=by
 exact λp h=>of_decide_eq_true (ax (by kernel_rfl:((List.range 101).map λp=>decide ((Str.ofString (toString (Int.ofNat p))).length<=10))=(List.range 101).map tt) p (List.mem_range.mpr (Nat.lt_succ_of_le h)))
inductive Ts(n:Nat)(ah:List SV)(e:IE)(m:Nat):Prop
 |mk (s:Tx) (h:Ev n ah e (.j s)) (hl:s.length<=m)
section
variable {n:Nat}{ah:List SV}
def Ts.d(h:s.length<=m):Ts n ah (.d (.j s)) m:=.mk s .d h
def Ts.nat(h:Ev n ah e (nv p))(A:p<=100):Ts n ah (.op .c [e]) 10:=.mk _ (.g h (if_pos (eV A (by decide)))) (Gw p A)
def Ts.j(h:Ev n ah e (.j s))(hs:s.length<=m):Ts n ah (.op .c [e]) m:=.mk _ (.g h rfl) hs
def Ts.G(h:Ts n ah e a)(h':Ts n ah D b)(B:(a+b).ble 10000=true):Ts n ah (.p [e,D]) (a+b):=by
 obtain⟨s,h,C⟩:=h;obtain⟨t,h',A⟩:=h';have:=Nat.add_le_add C A;exact .mk (s++t) (.y h h' (if_pos (az this (iD B)))) (by rw[strLen_append];exact this)
def Ts.q(h:Ts n ah e m):eG GP (aa GP n) (.q e) ah= .bG:=by
 obtain⟨s,h,-⟩:=h
 show(ev GP (aa GP n) e ah).i _=_
 rw[show ev GP (aa GP n) e ah=_ from h];rfl
end
structure CO(C:AV)(ag aL aB kids:List AV)(kd:AV)(nm:Tx):Prop where
 e:∃a b,C= .n 4 [kd,.j nm,a,b,.aj ag,.aj aL,.aj kids,.aj aB,.r]
 nm:nm.length<=10
def El(k:Nat){R A T K:List AV}(c:CO C R A T K kd nm)(D W:List AV)(B:p<=100){s:Tx}(hs:s.length<=100):aa GP (k+1) 25 [sf C sn D W,.h (nv p),.h (.j s)]= .bG:=by
 obtain⟨⟨a,b,rfl⟩,F⟩:=c;exact kK (σ:=Unit) (E:=λz=>[]) (S:=λz=>.a) (o:=none) rfl rfl (Xs.dI (.G (.G (.G (.G (.j (.g rfl rfl) F) (.d (m:=10) (by decide)) rfl) (.nat (.H rfl) B) rfl) (.d (m:=10) (by decide)) rfl) (.mk s (.H rfl) hs) rfl:Ts k [sf (.n 4 [kd,.j nm,a,b,.aj R,.aj A,.aj K,.aj T,.r]) sn D W,.h (nv p),.h (.j s)] (.p [.p [.p [.p [.op .c [.a 4 1 [.H 0 (some (5,0))]],.t Kq],.op .c [.r 1]],.t J'],.r 2]) _).q) (λz=>rfl)
structure ST where
 D:List (Option Nat)
 W:List Nat
def dv:Option Nat->AV
 |none=>.r
 |some d=>nv d
def ST.v(C sn:AV)(s:ST):SV:=sf C sn (s.D.map dv) (s.W.map nv)
noncomputable def jf(n:Nat)(s:ST)(p d:Nat):Option ST:=bif p.blt n then(match s.D.getD p none with
 |none=>some ⟨s.D.set p (some d),s.W++[p]⟩
 |some k=>bif k==d then some s else none)else none
structure xP(n b:Nat)(s:ST):Prop where
 E:s.D.length=n
 w:s.W.length<=200
 d:∀k,some k∈s.D->k<=b
def Ev.QM(h:Ev n ah a u)(C:Ev n ah e v)(E:Ev n ah A w)(D:d_ o u v=some b)(B:d_ o' v w=some c):Ev n ah (.I a [o,o'] [e,A]) (bv (b&&c)):=by
 show(ev GP (aa GP n) a ah).i _=_
 rw[show ev GP (aa GP n) a ah=_ from h]
 show(ev GP (aa GP n) e ah).i _=_
 rw[show ev GP (aa GP n) e ah=_ from C]
 show(aD.d (d_ o u v)).i _=_
 rw[D]
 induction b using aR
 ·rfl
 ·show(ev GP (aa GP n) A ah).i _=_
  rw[show ev GP (aa GP n) A ah=_ from E]
  show(aD.d (d_ o' v w)).i _=_
  rw[B];rfl
def zb(k:Nat)(i:Int):aa GP (k+1) 19 [.h (.m i)]= .oK (.h (bv true),[]):=by kernel_rfl
def Ev.inR(A:Ev n ah a (nv 0))(h:Ev n ah e (nv p))(h':Ev n ah B (nv m)):Ev n ah (.I a [.le,.lt] [e,B]) (bv (p.blt m)):=by
 exact(Ev.QM (o:=.le) (o':=.lt) (b:=true) (c:=p.blt m) A h h' (congrArg some (decide_eq_true (Int.natCast_nonneg p))) (congrArg some (by
  cases e:p.blt m
  ·exact decide_eq_false λc=>absurd (Nat.blt_eq.mpr (Int.ofNat_lt.mp c)) (by rw[e];exact fO)
  ·exact decide_eq_true (Int.ofNat_lt.mpr (Nat.blt_eq.mp e)))))
def g4{R A T K:List AV}(c:CO C R A T K kd nm)(F:p<=100)(h:Ev (k+1) (sf C sn D W::rest) e (nv p))(h':Ts (k+1) (sf C sn D W::rest) G m)(B:m.ble 100=true):eG GP (aa GP (k+1)) (.ex (.K (.sm 3 25) [0] [e,G])) (sf C sn D W::rest)= .bG:=by
 obtain⟨s,h',E⟩:=h';exact sN (σ:=Unit) (S:=λz=>.a) (o:=none) (.u h (.u h' .j)) (El k c D W F (az E (iD B)))
def Ev.qW{R A T K:List AV}(c:CO C R A T K kd nm):Ev n (sf C sn D W::rest) (.n [.a 4 4 [.H 0 (some (5,0))]]) (nv R.length):=by
 obtain⟨⟨a,b,rfl⟩,-⟩:=c;exact .E (.g rfl rfl)
def Dv(k){R A T K:List AV}(c:CO C R A T K kd nm)(h:xP R.length 100 s)(P:R.length<=100)(O:o<=100)(Q:d<=100):aa GP (k+2) 26 [s.v C sn,.h (nv p),.h (nv d),.h (nv o)]=oR (ST.v C sn) (jf R.length s p d):=by
 have F:Ev (k+1) [s.v C sn,.h (nv p),.h (nv d),.h (nv o),.a] (.or [.o [.h 19 [.r 1]],.o [.I (.i 0) [.le,.lt] [.r 1,.n [.a 4 4 [.H 0 (some (5,0))]]]]]) (bv (false || !p.blt R.length)):=.Co (.or (.not (.K (.u (.H rfl) .j) (zb k _))) λy=>.dI (.not (.inR .d (.H rfl) (.qW c))));unfold jf;cases hp:p.blt R.length
 ·rw[hp]at F;exact kK (E:=λz=>[z.v C sn]) (o:=none) rfl rfl (Xs.p (E:=λ_:Unit=>[]) (o:=none) (g:=λy=>none) (h_ F (Xs.dI (σ:=Unit) (o:=none) (g4 c O (.H rfl) (.d (m:=100) (by decide)) rfl))) nofun) λy=>rfl
 ·rw[hp]at F;have H:p<s.D.length:=h.E▸Nat.blt_eq.mp hp
  have L:s.D[p]? =some (s.D.getD p none):=by rw[kM,ij H];rfl
  have I:Ex (k+1) [s.v C sn,.h (nv p),.h (nv d),.h (nv o),.a] (bk 26 0) _ :=.z F .j;have B:Ex (k+1) [s.v C sn,.h (nv p),.h (nv d),.h (nv o),.a] (bk 26 1) [s.v C sn,.h (nv p),.h (nv d),.h (nv o),.h (dv (s.D.getD p none))]:=.h (.Uu (.H rfl) (by rw[di,L];rfl)) rfl
  induction e2:s.D.getD p none using aF with
  |none=>
   rw[e2]at B
   exact kK (E:=λz=>[z.v C sn,.h (nv p),.h (nv d),.h (nv o),.h .r]) (o:=some _) rfl rfl (.u I (.u B (.u (by
    have M:=Ex.H (n:=k+1) (C:=C) (sn:=sn) (D:=s.D.map dv) (W:=s.W.map nv) (rest:=[.h (nv p),.h (nv d),.h (nv o),.h .r]) (i:=.r 1) (e:=.r 2) (v:=nv d) (p:=p) (.H rfl) (.H rfl) (by rw[cz];exact H);rw[show(s.D.map dv).set p (nv d)=(s.D.set p (some d)).map dv from(List.map_set (f:=dv) (a:=some d)).symm]at M;have N:=Ex.G (n:=k+1) (C:=C) (sn:=sn) (D:=(s.D.set p (some d)).map dv) (W:=s.W.map nv) (rest:=[.h (nv p),.h (nv d),.h (nv o),.h .r]) (e:=.r 1) (v:=nv p) (.H rfl) (by rw[cz];exact eV h.w (by decide));rw[show s.W.map nv++[nv p]=(s.W++[p]).map nv from(List.map_append (f:=nv) (l₁:=s.W) (l₂:=[p])).symm]at N
    exact .z (b:=true) (.I (.H rfl) .d rfl) (.u M (.u N .j)):Ex (k+1) [s.v C sn,.h (nv p),.h (nv d),.h (nv o),.h .r] (bk 26 2) [ST.v C sn ⟨s.D.set p (some d),s.W++[p]⟩,.h (nv p),.h (nv d),.h (nv o),.h .r]) .j))) λy=>rfl
  |some q=>
   rw[e2]at B;have S:q<=100:=h.d q (e2▸fk L)
   have G:Ev (k+1) [s.v C sn,.h (nv p),.h (nv d),.h (nv o),.h (nv q)] (.I (.r 4) [.ne] [.r 2]) (bv (!(q==d))):=.I (.H rfl) (.H rfl) (show some (!PyData.eqv (.int (Int.ofNat q)) (.int (Int.ofNat d)))=_ from congrArg (λz=>some (!z)) (by
    show(Int.ofNat q==Int.ofNat d)=(q==d)
    cases e:q==d
    ·exact beq_eq_false_iff_ne.mpr λz=>absurd (Int.ofNat.inj z) (ne_of_beq_false e)
    ·rw[eq_of_beq e];exact beq_self_eq_true _))
   show _=oR _ (bif q==d then some s else none);cases e3:q==d
   ·rw[e3]at G;exact kK (E:=λz=>[z.v C sn]) (o:=none) rfl rfl (.u I (.u B (Xs.dI (σ:=Unit) (E:=λy=>[]) (o:=none) (h_ (b:=false) (.I (.H rfl) .d rfl) (Xs.dI (σ:=Unit) (E:=λy=>[]) (o:=none) (h_ G (Xs.dI (σ:=Unit) (E:=λy=>[]) (o:=none) (g4 c (h.E▸H |> λz=>az (fj z) P) (.H rfl) (.G (.G (.G (.d (m:=20) (by decide)) (.nat (.H rfl) S) rfl) (.d (m:=20) (by decide)) rfl) (.nat (.H rfl) Q) rfl) rfl)))):eG GP (aa GP (k+1)) (bk 26 2) [s.v C sn,.h (nv p),.h (nv d),.h (nv o),.h (nv q)]= .bG)))) λy=>rfl
   ·rw[e3]at G;exact kK (E:=λz=>[z.v C sn,.h (nv p),.h (nv d),.h (nv o),.h (nv q)]) (o:=some s) rfl rfl (.u I (.u B (.u (.z (b:=false) (.I (.H rfl) .d rfl) (.u (.z G .j) .j)) .j))) λy=>rfl
structure RV where
 oK:Bool
 t:Nat
 u:Nat
 j:Bool
 g:Nat
 e:Bool
structure CV where
 oK:Bool
 f:Nat
 la:Nat
 t:Nat
 d:Nat
def Qz:List (Tx×Nat×Nat):=[(c5,0,1),(gD,0,1),(gC,1,0),(ip,0,1),(i6,0,1),(wM,1,0),(wN,1,0),(pI,1,0),(qQ,0,1),(sX,0,1),(sM,0,1),(JL,0,1),(fX,1,2),(dQ,1,0),(dK,2,2),(bM,1,0),(m6,0,0),(bT,0,1),(vd,0,1),(CU,1,0),(bq,1,1),(bc,0,0),(fR,1,0),(jd,1,0),(vm,1,1)]
def cY(o:Tx):Nat×Nat:=(ft Qz o).getD (0,0)
def fm:Tx:=vl
def Ey(o:Tx):AV:=.tup [nv (cY o).1,nv (cY o).2]
def QE(k:Nat)(l:Int):((eT.filter λq=> !(q.1==fm)).map λq=>aa GP (k+1) 18 [.h (RD.v ⟨q.1,q.2.1,q.2.2,.r,l⟩)])=(eT.filter λq=> !(q.1==fm)).map λq=>.oK (.h (Ey q.1),[]):=by kernel_rfl
def QD(k:Nat)(l:Int)(a b:AV):(fu.map λc=>aa GP (k+3) 18 [.h (RD.v ⟨bq,a,nv 0,c,l⟩)])=fu.map λz=>.oK (.h (Ey bq),[]):=by kernel_rfl
def QB(k:Nat)(l:Int)(a b c:AV):((gS 4).map λo=>aa GP (k+1) 18 [.h (RD.v ⟨o,a,b,c,l⟩)])=(gS 4).map λo=>.oK (.h (Ey o),[]):=by kernel_rfl
def H9(k)(c:sy r)(B:(r.op==fm)=false):aa GP (k+3) 18 [.h r.v]= .oK (.h (Ey r.op),[]):=by
 cases c with
 |j m t l=>exact ax (QB (k+2) l _ _ _) _ m
 |t m l=>exact ax (QE (k+2) l) _ (ic.mpr ⟨m,by rw[show(_ ==fm)=false from B];rfl⟩)
 |s m A l=>
  refine bZ m λz D C=>?_;obtain rfl:=C;exact ax (QD k l z .r) _ A
def MF(w:WY)(o:Tx):cY (vv w o)=cY o:=rj cY w o gj (by
 exact ax (by kernel_rfl:(gj.map λp=>cY p.2.1)=gj.map λp=>cY p.2.2))
def m9(x:CX)(tw:Bool)(r:RD):Bool:=bif dB r then true else bif r.op==bq then yY x tw r.c else rl x tw (r.op,r.a,r.b)
def kP(x:CX)(tw:Bool)(r:RD):RV:=⟨m9 x tw r,(cY r.op).1,(cY r.op).2,dB r,bif dB r then b9 r else 0,aH (gS 5) (some r)⟩
def mU(q:CT):CV:=⟨!(q.s==pJ),q.f,q.la,q.t,q.d.toNat⟩
def JE(c:sy r)(A:dB r=true):b9 (T w x r)=b9 r:=by rw[Jw A];rfl
def vb:∀q∈eT,(du q.1 || q.1==bq)=false:=by
 exact ax (by kernel_rfl:(eT.map λq=>du q.1 || q.1==bq)=eT.map λz=>false)
def Hd(w)(o)(A:(gj.all λp=>(p.2.1==z)==(p.2.2==z))=true):(vv w o==z)=(o==z):=rj (· ==z) w o gj λp m=>eq_of_beq (List.all_eq_true.mp A p m)
def Fz(h:kq w)(A:x∈dM)(c:sy r):m9 x true (T w x r)=m9 x false r:=by
 have D:dB (T w x r)=dB r:=kG w r.op _ (.head _);have C:((T w x r).op==bq)=(r.op==bq):=Hd w r.op (by decide+kernel);unfold m9;rw[D,C]
 cases c with
 |j m t l=>rw[show dB _=true from List.any_eq_true.mpr ⟨_,m,beq_self_eq_true _⟩];rfl
 | @t q m l=>
  obtain⟨E,B⟩:=Bool.or_eq_false_iff.mp (vb q m);rw[show dB ⟨q.1,q.2.1,q.2.2,.r,l⟩=false from E,show(_ ==bq)=false from B];exact eq_of_beq (jo.mp (MP h A q m)).2
 | @s q m c mc l=>
  have e:=g5 m;have:=AK;rw[show(RD.op ⟨q.1,q.2.1,q.2.2,c,l⟩==bq)=true by rw[show RD.op _=bq from e];rfl];cases dB ⟨q.1,q.2.1,q.2.2,c,l⟩
  ·show yY x true (cT w x q.1 c)=yY x false c;rw[e];exact(ux h A mc).2
  ·rfl
def K3(h:kq w)(A:x∈dM)(c:sy r):kP x true (T w x r)=kP x false r:=by
 unfold kP
 rw[Fz h A c,show cY (T w x r).op=cY r.op from MF w r.op,show dB (T w x r)=dB r from kG w r.op _ (.head _),show aH (gS 5) (some (T w x r))=aH (gS 5) (some r)from kG w r.op _ (.tail _ (.head _)),(by
  cases e:dB r
  ·rfl
  ·exact JE c e:(bif dB r then b9 (T w x r)else 0)=bif dB r then b9 r else 0)]
def uu(n p d:Nat)(q:CV)(s:ST):Option ST:=bif q.f.ble p&&p.blt q.la then(bif d.blt q.d then none else jf n s q.t (q.d+1))else some s
noncomputable def kh{σ A:Type}(step:A->σ->Option σ):List A->σ->Option σ
 |[],s=>some s
 |q::l,s=>(step q s).bind (kh step l)
def Bc(step)(f:A->β):∀(l:List A) (s:σ),kh step (l.map f) s=kh (λq=>step (f q)) l s:=by
 intro l
 induction l with
 |nil=>exact λz=>rfl
 |cons q l B=>exact λs=>congrArg (Option.bind (step (f q) s)) (funext B)
def F3(n p d:Nat)(l:List CV):ST->Option ST:=kh (uu n p d) l
def qJ(n:Nat)(A:List CV)(s:ST)(p:Nat)(r:RV)(d:Nat):Option ST:=
 bif d.blt r.t then none else
 (bif r.j then jf n s r.g (d-r.t+r.u)else some s).bind λs=>
 (bif r.e then some s else jf n s (p+1) (d-r.t+r.u)).bind λs=>F3 n p d A s
structure Cb(n b:Nat)(s s1:ST):Prop where
 oK:xP n b s1
 w:s1.W.length+(s1.D.filter (·.isNone)).length=s.W.length+(s.D.filter (·.isNone)).length
 sw:(∀p∈s.W,(s.D.getD p none).isSome=true)->∀p∈s1.W,(s1.D.getD p none).isSome=true
def Ao{D:List (Option Nat)}:∀{p:Nat},p<D.length->D.getD p none=none->(D.filter (·.isNone)).length=((D.set p (some d)).filter (·.isNone)).length+1:=by
 induction D with
 |nil=>exact λh=>absurd h (Nat.not_lt_zero _)
 |cons b l A=>exact λ{p} h e=>match p,h,e with
  |0,h,e=>by cases(show b=none from e);rfl
  |p+1,h,e=>by
   have:=A (Nat.lt_of_succ_lt_succ h) (show l.getD p none=none from e);cases b
   ·exact congrArg (· +1) this
   ·exact this
def iM{n b:Nat}(h:xP n b s)(G:n<=100)(F:d<=b)(E:s.W.length+(s.D.filter (·.isNone)).length<=200)(e:jf n s p d=some s1):Cb n b s s1:=by
 unfold jf at e;cases A:p.blt n
 ·rw[A]at e;cases e
 ·rw[A]at e;have A:p<s.D.length:=h.E▸Nat.blt_eq.mp A
  induction e2:s.D.getD p none using aF with
  |none=>
   rw[e2]at e;have e:some (ST.mk (s.D.set p (some d)) (s.W++[p]))=some s1:=e;cases e;have z:=Ao (d:=d) A e2;have B:(s.W++[p]).length=s.W.length+1:=dc;refine⟨⟨eI.trans h.E,?_,λk m=>?_⟩,?_,λC q m=>?_⟩
   ·show(s.W++[p]).length<=200
    exact zE (az (i0 (zR (gY 1 _) z) _) E) B
   ·rcases List.mem_or_eq_of_mem_set m with m |m
    ·exact h.d k m
    ·exact dG m▸F
   ·show(s.W++[p]).length+((s.D.set p (some d)).filter (·.isNone)).length=_
    exact zQ z B
   ·show((s.D.set p (some d)).getD q none).isSome=true
    rw[kM,List.getElem?_set]
    by_cases c:p=q
    ·rw[if_pos c,if_pos A];rfl
    ·rw[if_neg c,<-kM];rcases gM.mp m with m |m
     ·exact C q m
     ·exact absurd (dN.mp m).symm c
  |some q=>
   rw[e2]at e;have e:(bif q==d then some s else none)=some s1:=e;cases e3:q==d
   ·rw[e3]at e;cases e
   ·rw[e3]at e;cases e;exact⟨h,rfl,id⟩
def lG(h:(bif b then o else some s)=some t):b=true/\o=some t\/t=s:=by
 induction b using aR
 ·exact .inr (dG h).symm
 ·exact .inl ⟨rfl,h⟩
def xx(h:xP n b s)(C:n<=100)(A:q.d+1<=b)(B:s.W.length+(s.D.filter (·.isNone)).length<=200)(e:uu n p d q s=some s1):Cb n b s s1:=by
 unfold uu at e;rcases lG e with⟨-,e⟩|rfl
 ·cases e1:d.blt q.d
  ·rw[e1]at e;exact iM h C A B e
  ·rw[e1]at e;cases e
 ·exact⟨h,rfl,id⟩
def BH(L:n<=100):∀{l:List CV} {s B:ST},xP n b s->(∀q∈l,q.d+1<=b)->s.W.length+(s.D.filter (·.isNone)).length<=200->F3 n p d l s=some B->Cb n b s B:=by
 intro l
 induction l with
 |nil=>intro s B h _ _ e;cases e;exact⟨h,rfl,id⟩
 |cons q l H=>
  intro s B h F E e;refine dg e λM G I=>?_;have A:=xx h L (F q (.head _)) E G;have C:=H A.oK (λy m=>F y (.tail _ m)) (A.w▸E) I;exact⟨C.oK,C.w.trans A.w,λh=>C.sw (A.sw h)⟩
def Ev.lt(h:Ev n ah e (nv a))(h':Ev n ah A (nv b)):Ev n ah (.I e [.lt] [A]) (bv (a.blt b)):=.I h h' (congrArg some (by
 cases e:a.blt b
 ·exact decide_eq_false λc=>absurd (Nat.blt_eq.mpr (Int.ofNat_lt.mp c)) (by rw[e];exact fO)
 ·exact decide_eq_true (Int.ofNat_lt.mpr (Nat.blt_eq.mp e))))
def Ev.sub(h:Ev n ah e (nv a))(h':Ev n ah B (nv b))(A:b<=a):Ev n ah (.m [e,B]) (nv (a-b)):=.y h h' (congrArg (λz=>some (AV.m z)) (Int.ofNat_sub A).symm)
def Ev.E5(h:Ev n ah e (nv a))(h':Ev n ah A (nv b)):Ev n ah (.p [e,A]) (nv (a+b)):=.y h h' rfl
def Ev.row{B:List RD}{A T K:List AV}(c:CO C (B.map RD.v) A T K kd nm)(h:Ev n (sf C sn D W::rest) e (nv p))(E:B[p]? =some r):Ev n (sf C sn D W::rest) (.x [.a 4 4 [.H 0 (some (5,0))],e]) r.v:=by
 obtain⟨⟨a,b,rfl⟩,-⟩:=c;exact .Q (.g rfl rfl) h (by rw[di,E];rfl)
def Ie(q:CT)(p:Nat):we q p=(q.f.ble p&&p.blt q.la):=by
 unfold we
 rw[(by
  cases e:q.f.ble p
  ·exact decide_eq_false λc=>absurd (Nat.ble_eq.mpr (Int.ofNat_le.mp c)) (by rw[e];exact fO)
  ·exact decide_eq_true (Int.ofNat_le.mpr (Nat.ble_eq.mp e)):decide (Int.ofNat q.f<=Int.ofNat p)=q.f.ble p),(by
  cases e:p.blt q.la
  ·exact decide_eq_false λc=>absurd (Nat.blt_eq.mpr (Int.ofNat_lt.mp c)) (by rw[e];exact fO)
  ·exact decide_eq_true (Int.ofNat_lt.mpr (Nat.blt_eq.mp e)):decide (Int.ofNat p<Int.ofNat q.la)=p.blt q.la)]
inductive Nb{σ JT:Type}(n:Nat)(E:σ->JT->List SV)(bind:aD (List SV))(body:List IS)(s:σ)(o:Option σ)(P:σ->Prop):Prop
 |mk {j0 j1:JT} (hb:bind= .oK (E s j0)) (h:Xs n (E s j0) body (rO (λs=>E s j1) o)) (hp:∀s1,o=some s1->P s1)
def w7(E)(I:List β->σ->Prop)(enc)(step){s:σ}{j:JT}(H:t= .l tg tup k es body)(h:mW n (E s j) es vs)(D:bz k vs=some (l.map enc))(F:I l s)(L:∀b l s j,I (b::l) s->Nb n E (aN tg tup (enc b) (E s j)) body s (step b s) (I l)):∃j1,eG GP (aa GP n) t (E s j)=rO (λs=>E s j1) (kh step l s)/\∀A,kh step l s=some A->I [] A:=by
 subst H
 obtain⟨j1,e,p⟩:=(by
  clear h D F
  induction l with
  |nil=>exact λs j h=>⟨j,rfl,λA e=>by cases e;exact h⟩
  |cons b l M=>
   intro s j h;obtain @⟨C,j1,G,N,p⟩:=L b l s j h
   rw[(by
    show(aN tg tup (enc b) (E s j)).i _=_
    rw[G]
    show(aG GP (aa GP n) body (E s C)).i _=_
    rw[show aG GP (aa GP n) body (E s C)=_ from N]<;>rfl:forLoop (aN tg tup) (λB=>aG GP (aa GP n) body B) ((b::l).map enc) (E s j)=(rO (λs=>E s j1) (step b s)).i λr=>match r.1 with |.C w=>.oK (.C w,r.2)|_ =>forLoop (aN tg tup) (λB=>aG GP (aa GP n) body B) (l.map enc) r.2)]
   show ∃j1,_=rO _ ((step b s).bind (kh step l))/\∀A,(step b s).bind (kh step l)=some A->_
   induction e:step b s using aF with
   |none=>exact⟨j,rfl,nofun⟩
   |some A=>exact M A j1 (p A e):∀s j,I l s->∃j1,forLoop (aN tg tup) (λB=>aG GP (aa GP n) body B) (l.map enc) (E s j)=rO (λs=>E s j1) (kh step l s)/\∀A,kh step l s=some A->I [] A) s j F
 refine⟨j1,?_,p⟩
 show(bu GP (aa GP n) es (E s j)).i _=_
 rw[show bu GP (aa GP n) es (E s j)=_ from h]
 show(aD.d (bz k vs)).i _=_
 rw[D];exact e
structure CB(C:AV)(B:BD)(K:List AV)(kd:AV)(nm:Tx):Prop where
 co:CO C (B.ag.map RD.v) (B.aL.map CT.v) (B.aB.map nv) K kd nm
 E:B.ag.length<=16
 cls:∀r∈B.ag,sy r
 cs:∀q∈B.aL,Li 20 q.d
 g:B.aL.length<=4
def gk{B:List RD}:(B.map RD.v).length=B.length:=cz _
def CB.reach(k:Nat){C sn:AV}(c:CB C B K kd nm)(h:xP B.ag.length 100 s)(E:o<=100)(G:d<=100)(h1:Ev (k+2) (s.v C sn::rest) e (nv p))(A:Ev (k+2) (s.v C sn::rest) H (nv d))(F:Ev (k+2) (s.v C sn::rest) D (nv o)):eG GP (aa GP (k+2)) (.ex (.K (.sm 3 26) [0] [e,H,D])) (s.v C sn::rest)=rO (λs=>s.v C sn::rest) (jf B.ag.length s p d):=by
 have:=Dv k (sn:=sn) c.co (s:=s) (p:=p) (d:=d) (o:=o) (by rw[gk];exact h) (by rw[gk];exact az c.E (by decide)) E G;rw[gk]at this;exact sN (.u h1 (.u A (.u F .j))) this
inductive y6{σ:Type}(S:σ->SV):Option σ->aD (Fl×List SV)->Prop
 |ex:y6 S none .bG
 |go {s:σ} {rest:List SV}:y6 S (some s) (.oK (.a,S s::rest))
def y6.seq(h:eG GP (aa GP n) s ah=rO E o)(A:∀s,o=some s->y6 S (g s) (aG GP (aa GP n) l (E s))):y6 S (o.bind g) (aG GP (aa GP n) (s::l) ah):=by
 rw[(by
  show(eG GP (aa GP n) s ah).i _=_
  rw[h]<;>rfl:aG GP (aa GP n) (s::l) ah=(rO E o).i λb=>match b.1 with |.a=>aG GP (aa GP n) l b.2 |f=>.oK (f,b.2))]
 induction o using aF with
 |none=>exact .ex
 |some s=>exact A s rfl
def y6.nx(h:Ex n ah s env1)(A:y6 S o (aG GP (aa GP n) l env1)):y6 S o (aG GP (aa GP n) (s::l) ah):=by
 rw[(by
  show(eG GP (aa GP n) s ah).i _=_
  rw[show eG GP (aa GP n) s ah=_ from h];rfl:aG GP (aa GP n) (s::l) ah=aG GP (aa GP n) l env1)];exact A
def y6.last{t:JT->σ->List SV}(h:∃j1,eG GP (aa GP n) s ah=rO (λs=>S s::t j1 s) o):y6 S o (aG GP (aa GP n) [s] ah):=by
 obtain⟨j1,h⟩:=h;rw[(Xs.dI h:aG GP (aa GP n) [s] ah=rO (λs=>S s::t j1 s) o)]
 induction o using aF with
 |none=>exact .ex
 |some s=>exact .go
def wy(B:GP.fns f=some (fd f))(A:(args.length.ble (fd f).2.1&&(fd f).2.1.ble (args.length+(fd f).2.2.1.length))=true)(h1:(fd f).2.2.2.2=1)(h:y6 S o (aG GP (aa GP n) (fd f).1 (env0 f args))):aa GP (n+1) f args=oR S o:=by
 generalize e:aG GP (aa GP n) (fd f).1 (env0 f args)=r at h
 cases h with
 |ex=>exact kK (E:=λz=>[S z]) (o:=none) B A e λs=>by rw[h1];rfl
 | @go s rest=>exact kK (E:=λz=>S z::rest) (o:=some s) B A e λs=>by rw[h1];rfl
def Bp(c:sy r):(cY r.op).2<=(cY r.op).1+1:=by
 refine iD (ax (by kernel_rfl:((bq::m8).map λo=>(cY o).2.ble ((cY o).1+1))=(bq::m8).map tt) r.op ?_)
 cases c with
 |j m t l=>exact .tail _ (iI _ m)
 |t m l=>exact .tail _ (oj _ m)
 |s m A l=>exact g5 m▸.head _
def sy.a(c:sy r)(h:dB r=true):r.a=nv (b9 r):=by
 cases c with
 |j m t l=>rfl
 |t m l=>exact absurd ((Bool.or_eq_false_iff.mp (vb _ m)).1.symm.trans h) fO
 | @s q m c mc l=>
  have:du q.1=false:=by rw[g5 m];kernel_rfl
  exact absurd (this.symm.trans h) fO
def xP.mono(h:xP n b s)(A:b<=b'):xP n b' s:=⟨h.E,h.w,λk m=>az (h.d k m) A⟩
def GI(h:xP n b s)(F:n<=100)(M:d<=b)(P:r.u<=r.t+1)(N:∀q∈cs,q.d<=b)(G:s.W.length+(s.D.filter (·.isNone)).length<=200)(e:qJ n cs s p r d=some s1):Cb n (b+1) s s1:=by
 unfold qJ at e;cases e0:d.blt r.t
 ·rw[e0]at e;refine dg e λI E e=>?_;refine dg e λO C e=>?_
  have L:d-r.t+r.u<=b+1:=by
   exact zH P (Nat.le_of_not_lt λz=>absurd (Nat.blt_eq.mpr z) (by rw[e0];exact fO):r.t<=d) M
  have h:=h.mono (Nat.le_succ b)
  have A:Cb n (b+1) s I:=by
   rcases lG E with⟨-,E⟩|rfl
   ·exact iM h F L G E
   ·exact⟨h,rfl,id⟩
  have B:Cb n (b+1) I O:=by
   induction c:r.e using aR
   ·rw[c]at C;exact iM A.oK F L (A.w▸G) C
   ·rw[c]at C;cases C;exact⟨A.oK,rfl,id⟩
  have H:=BH F B.oK (λq m=>eU (N q m)) (B.w.trans A.w▸G) e;exact⟨H.oK,H.w.trans (B.w.trans A.w),λh=>H.sw (B.sw (A.sw h))⟩
 ·rw[e0]at e;cases e
def C0(k:Nat){K:List AV}{nm:Tx}(c:CB C B K kd nm)(h:xP B.ag.length b s)(N:b<=50)(Ql:21<=b)(S:s.W.length+(s.D.filter (·.isNone)).length<=200)(Q:s.D.getD p none=some d)(Z:B.ag[p]? =some r)(hp:(r.op==fm)=false)(x:CX)(tw:Bool):aa GP (k+4) 30 [s.v C sn,.h (nv p)]=oR (ST.v C sn) (qJ B.ag.length (B.aL.map mU) s p (kP x tw r) d):=by
 have M:B.ag.length<=100:=az c.E (by decide);have L:p<=100:=az (fj ((mE.mp Z).1:p<B.ag.length)) M;have G:=c.cls r (fk Z)
 have hD:s.D[p]? =some (some d):=by
  rw[kM]at Q
  induction e:s.D[p]? using aF with
  |none=>rw[e]at Q;cases Q
  |some y=>rw[e]at Q;exact congrArg some Q
 have Xo:d<=b:=h.d d (fk hD);have W2:=Bp G;have R:Ev (k+3) [s.v C sn,.h (nv p),.h r.v,.h (nv d),.h (nv (cY r.op).1),.h (nv (cY r.op).2),.a] (.I (.r 3) [.lt] [.r 4]) (bv (d.blt (cY r.op).1)):=.lt (.H rfl) (.H rfl);refine wy rfl rfl rfl (.nx (.s (.row c.co (.H rfl) Z) (.Uu (.H rfl) (by rw[di,hD];rfl)) rfl rfl:Ex (k+3) [s.v C sn,.h (nv p),.a,.a,.a,.a,.a] (bk 30 0) [s.v C sn,.h (nv p),.h r.v,.h (nv d),.a,.a,.a]) (.nx (.r (.K (.u (.H rfl) .j) (H9 k G hp)) rfl:Ex (k+3) [s.v C sn,.h (nv p),.h r.v,.h (nv d),.a,.a,.a] (bk 30 1) [s.v C sn,.h (nv p),.h r.v,.h (nv d),.h (nv (cY r.op).1),.h (nv (cY r.op).2),.a]) ?_));unfold qJ;rw[show(kP x tw r).t=(cY r.op).1 from rfl];cases e2:d.blt (cY r.op).1
 ·rw[e2]at R;have Tn:(cY r.op).1<=d:=Nat.le_of_not_lt λz=>absurd (Nat.blt_eq.mpr z) (by rw[e2];exact fO);have O:d-(cY r.op).1+(cY r.op).2<=b+1:=zH W2 Tn Xo;have P:=h.mono (Nat.le_succ b);have eD:∀z:ST,Ev (k+3) [z.v C sn,.h (nv p),.h r.v,.h (nv d),.h (nv (cY r.op).1),.h (nv (cY r.op).2),.a] (.p [.m [.r 3,.r 4],.r 5]) (nv (d-(cY r.op).1+(cY r.op).2)):=λz=>.E5 (.sub (.H rfl) (.H rfl) Tn) (.H rfl);refine .nx (.z R .j) (.seq (E:=λz:ST=>[z.v C sn,.h (nv p),.h r.v,.h (nv d),.h (nv (cY r.op).1),.h (nv (cY r.op).2),.a]) (o:=bif dB r then jf B.ag.length s (bif dB r then b9 r else 0) (d-(cY r.op).1+(cY r.op).2)else some s) ?_ λH ea=>.seq (E:=λz:ST=>[z.v C sn,.h (nv p),.h r.v,.h (nv d),.h (nv (cY r.op).1),.h (nv (cY r.op).2),.a]) (o:=bif aH (gS 5) (some r)then some H else jf B.ag.length H (p+1) (d-(cY r.op).1+(cY r.op).2)) ?_ λi U=>?_)
  ·refine h_ (b:=dB r) (.Y (.H rfl) (.V rfl)) ?_;cases Y:dB r
   ·exact .j
   ·exact Xs.dI (c.reach (k+1) (P.mono (zT (eU N) rfl)) L (Cf O (eU N) rfl) (.g (.H rfl) (congrArg some (G.a Y))) (eD s) (.H rfl))
  ·have F:Cb B.ag.length (b+1) s H:=by
    rcases lG ea with⟨-,I⟩|rfl
    ·exact iM P M O S I
    ·exact⟨P,rfl,id⟩
   refine h_ (b:= !aH (gS 5) (some r)) (.Aq (.H rfl) (.V rfl)) ?_;cases aH (gS 5) (some r)
   ·exact Xs.dI (c.reach (k+1) (F.oK.mono (zT (eU N) rfl)) L (Cf O (eU N) rfl) (.G (.H rfl)) (eD H) (.H rfl))
   ·exact .j
  ·have F:Cb B.ag.length (b+1) s H:=by
    rcases lG ea with⟨-,I⟩|rfl
    ·exact iM P M O S I
    ·exact⟨P,rfl,id⟩
   have X:Cb B.ag.length (b+1) H i:=by
    cases ce:aH (gS 5) (some r)
    ·rw[ce]at U;exact iM F.oK M O (F.w▸S) U
    ·rw[ce]at U;cases U;exact⟨F.oK,rfl,id⟩
   refine .last (t:=λj J=>[.h (nv p),.h r.v,.h (nv d),.h (nv (cY r.op).1),.h (nv (cY r.op).2),j]) ?_;show ∃j1,_=rO _ (kh (uu B.ag.length p d) (B.aL.map mU) i);rw[Bc]
   exact(w7 (n:=k+3) (t:=bk 30 5) (j:=SV.a) (s:=i) (λ(z:ST) j=>[z.v C sn,.h (nv p),.h r.v,.h (nv d),.h (nv (cY r.op).1),.h (nv (cY r.op).2),j]) (λ(l:List CT) z=>(∀q∈l,q∈B.aL)/\Cb B.ag.length (b+1) s z) CT.v (λq=>uu B.ag.length p d (mU q)) rfl (.u (by obtain⟨⟨u,v,e⟩,-⟩:=c.co;rw[e];exact .g rfl rfl) .j) rfl ⟨λJ m=>m,X.oK,X.w.trans F.w,λh=>X.sw (F.sw h)⟩ λq l z j A=>by
    refine bB λP0 aC=>?_;obtain⟨j',Y,e⟩:=c.cs q (A.1 q (.head _))
    have Tt:(AV.m q.d)=nv q.d.toNat:=by rw[e];rfl
    have Mb:q.d.toNat<=20:=by rw[e];exact Y
    have FQ:z.W.length+(z.D.filter (·.isNone)).length<=200:=A.2.w▸S;refine aC (.mk (j0:=.h q.v) (j1:=.h q.v) rfl (Xs.dI (h_ (b:=we q p) (.P (.u (.H rfl) (.u (.H rfl) .j)) rfl (Bw (k+2) q p)) ?_)) λs1 I=>⟨λy m=>A.1 y (.tail _ m),?_⟩)
    ·unfold uu;rw[show((mU q).f.ble p&&p.blt (mU q).la)=we q p from(Ie q p).symm];cases we q p
     ·exact .j
     ·have V:Ev (k+3) [z.v C sn,.h (nv p),.h r.v,.h (nv d),.h (nv (cY r.op).1),.h (nv (cY r.op).2),.h q.v] (.I (.r 3) [.lt] [.a 3 4 [.r 6]]) (bv (d.blt q.d.toNat)):=.lt (.H rfl) (.g (.H rfl) (congrArg some Tt));show Xs _ _ _ (rO _ (bif d.blt q.d.toNat then none else jf B.ag.length z q.t (q.d.toNat+1)));cases e6:d.blt q.d.toNat
      ·rw[e6]at V;exact .u (.z V .j) (Xs.dI (c.reach (k+1) (A.2.oK.mono (zT (eU N) rfl)) L (zT (eU Mb) rfl) (.g (.H rfl) rfl) (.G (.g (.H rfl) (congrArg some Tt))) (.H rfl)))
      ·rw[e6]at V
       exact Xs.p (E:=λ_:Unit=>[]) (o:=none) (g:=λJ=>none) (h_ V (Xs.dI (σ:=Unit) (E:=λJ=>[]) (o:=none) (g4 c.co L (.H rfl) (.d (m:=100) (by decide)) rfl))) λJ e=>by cases e
    ·have:=xx A.2.oK M (Nat.le_succ_of_le (az (eU Mb) Ql)) FQ I
     exact⟨this.oK,this.w.trans A.2.w,λh=>this.sw (A.2.sw h)⟩).elim λj q=>⟨j,q.1⟩
 ·rw[e2]at R
  exact .seq (E:=λ_:Unit=>[]) (o:=none) (g:=λJ=>none) (h_ R (Xs.dI (σ:=Unit) (E:=λJ=>[]) (o:=none) (g4 c.co L (.H rfl) (.d (m:=100) (by decide)) rfl))) λJ e=>by cases e
def uL(q:Q3):Bool:=q.1==fm || ((q.1==ip || q.1==i6)&&As q.2.1==5)
def lb(q:Q3)(c:AV)(l:Int):AV:=.n 2 [.j q.1,q.2.1,q.2.2,c,.m l]
def eR(kd nm:Tx)(C:AV)(B R A K S:List AV):AV:=.n 4 [.j kd,.j nm,C,.aj B,.aj R,.aj A,.aj K,.aj S,.r]
section
variable (k:Nat)(S:SV)(C sn:AV)(D W:List AV)(p:AV)(l:Int)
def S3:((eT.filter λq=> !uL q).map λq=>aa GP (k+5) 27 [sf C sn D W,.h p,.h (lb q .r l)])=(eT.filter λq=> !uL q).map λz=>.oK (.h .r,[sf C sn D W]):=by kernel_rfl
def Wl:(mY.map λq=>fu.map λc=>aa GP (k+5) 27 [sf C sn D W,.h p,.h (lb q c l)])=mY.map λz=>fu.map λz=>.oK (.h .r,[sf C sn D W]):=by kernel_rfl
def AO(o:Tx):Bool:=o==bT || o==vd
def Wv:((eT.filter λq=> !AO q.1).map λq=>aa GP (k+2) 29 [sf C sn D W,.h p,.h (lb q .r l)])=(eT.filter λq=> !AO q.1).map λz=>.oK (.h .r,[sf C sn D W]):=by kernel_rfl
def Wu(a b c:AV):((gS 4).map λo=>aa GP (k+2) 29 [sf C sn D W,.h p,.h (lb (o,a,b) c l)])=(gS 4).map λz=>.oK (.h .r,[sf C sn D W]):=by kernel_rfl
def Wi:(bb.map λtw=>(mX.filter (rl ⟨[2,3],0⟩ tw)).map λq=>aa GP (k+2) 28 [sf C (.aj [eR kd nm pr [.j s,.j t] R A K Z,eR E I F [.j a,.j b,.j c] B H G L]) D W,.h p,.h (lb q .r l)])=bb.map λtw=>(mX.filter (rl ⟨[2,3],0⟩ tw)).map λz=>.oK (.h .r,[sf C (.aj [eR kd nm pr [.j s,.j t] R A K Z,eR E I F [.j a,.j b,.j c] B H G L]) D W]):=by kernel_rfl
def SQ(m:Nat):(bb.map λtw=>(mX.filter (rl ⟨[3],m⟩ tw)).map λq=>aa GP (k+2) 28 [sf C (.aj [eR kd nm pr [.j s,.j t,.j u] R A K Z]) D W,.h p,.h (lb q .r l)])=bb.map λtw=>(mX.filter (rl ⟨[3],m⟩ tw)).map λz=>.oK (.h .r,[sf C (.aj [eR kd nm pr [.j s,.j t,.j u] R A K Z]) D W]):=by kernel_rfl
def sr(tw:Bool):Tx×Tx:=bif tw then(a_,aP)else(aP,a_)
def Ws:(bb.map λtw=>((gX++lM).filter (rl ⟨[3],2⟩ tw)).map λq=>aa GP (k+2) 29 [sf (eR kd nm pr N R A [eR (sr tw).1 P E I L G F X,eR (sr tw).2 V B O U H Q M] Z) sn D W,.h p,.h (lb q .r l)])=bb.map λtw=>((gX++lM).filter (rl ⟨[3],2⟩ tw)).map λz=>.oK (.h .r,[sf (eR kd nm pr N R A [eR (sr tw).1 P E I L G F X,eR (sr tw).2 V B O U H Q M] Z) sn D W]):=by kernel_rfl
def Wh:(bb.map λtw=>(fu.filter (yY ⟨[3],2⟩ tw)).map λc=>aa GP (k+2) 29 [sf (eR kd nm pr N R A [eR (sr tw).1 P E I L G F X,eR (sr tw).2 V B O U H Q M] Z) sn D W,.h p,.h (lb (bq,y,nv 0) c l)])=bb.map λtw=>(fu.filter (yY ⟨[3],2⟩ tw)).map λz=>.oK (.h .r,[sf (eR kd nm pr N R A [eR (sr tw).1 P E I L G F X,eR (sr tw).2 V B O U H Q M] Z) sn D W]):=by kernel_rfl
def SW:(bb.map λtw=>(fu.filter (yY ⟨z,0⟩ tw)).map λc=>aa GP (k+2) 29 [sf C sn D W,.h p,.h (lb (bq,y,nv 0) c l)])=bb.map λtw=>(fu.filter (yY ⟨z,0⟩ tw)).map λq=>.oK (.h .r,[sf C sn D W]):=by kernel_rfl
def Wk(t:Nat):((gS 4).map λo=>aG GP (aa GP (k+4)) [bk 27 0,bk 27 1,bk 27 2,bk 27 3] (env0 27 [sf C sn D W,.h p,.h (lb (o,nv t,.r) .r l)]))=(gS 4).map λo=>.oK (.a,[sf C sn D W,.h p,.h (lb (o,nv t,.r) .r l),.h (.j ⟨#[112]⟩),.h (.tup [nv t,.r,.r]),.h (nv 0),.h (.j ⟨#[112]⟩),.a]):=by kernel_rfl
end
inductive Sn:AV->AV->CX->Bool->Prop
 |d {kd nm NN yZ s t a b c:Tx} {pr x_:AV} {R A S R' A' K' S':List AV} {tw:Bool}:Sn (eR kd nm pr [.j s,.j t] R A [] S) (.aj [eR kd nm pr [.j s,.j t] R A [] S,eR NN yZ x_ [.j a,.j b,.j c] R' A' K' S']) ⟨[2,3],0⟩ tw
 |dI {kd nm s t u:Tx} {pr:AV} {R A S:List AV} {tw:Bool}:Sn (eR kd nm pr [.j s,.j t,.j u] R A [] S) (.aj [eR kd nm pr [.j s,.j t,.j u] R A [] S]) ⟨[3],0⟩ tw
 |top {kd nm yZ tF s t u:Tx} {pr x_ te:AV} {C9 sQ R A S R' A' K' S' Ge Gg Gf Uy:List AV} {tw:Bool}:Sn (eR kd nm pr [.j s,.j t,.j u] R A [eR (sr tw).1 yZ x_ C9 R' A' K' S',eR (sr tw).2 tF te sQ Ge Gg Gf Uy] S) (.aj [eR kd nm pr [.j s,.j t,.j u] R A [eR (sr tw).1 yZ x_ C9 R' A' K' S',eR (sr tw).2 tF te sQ Ge Gg Gf Uy] S]) ⟨[3],2⟩ tw
def Sn.sl(h:Sn C sn x tw)(k)(D W)(p)(l):∀q∈mX,rl x tw q=true->aa GP (k+2) 28 [sf C sn D W,.h p,.h (lb q .r l)]= .oK (.h .r,[sf C sn D W]):=by
 cases h with
 |d=>exact λq m o=>ax (ax (Wi k _ D W p l) tw (bN tw)) q (ic.mpr ⟨m,o⟩)
 |dI=>exact λq m o=>ax (ax (SQ k _ D W p l 0) tw (bN tw)) q (ic.mpr ⟨m,o⟩)
 |top=>exact λq m o=>ax (ax (SQ k _ D W p l 2) tw (bN tw)) q (ic.mpr ⟨m,o⟩)
def An(h:x.a=0):∀q∈gX++lM,∀tw,rl x tw q=false:=by
 obtain⟨z,m⟩:=x;cases h;exact λq m tw=>yf (by kernel_rfl:((gX++lM).map λq=>bb.map λtw=>rl ⟨z,0⟩ tw q)=(gX++lM).map λy=>bb.map λy=>false) q m tw (bN tw)
def Sn.ch(h:Sn C sn x tw)(k)(D W)(p)(l):∀q∈gX++lM,rl x tw q=true->aa GP (k+2) 29 [sf C sn D W,.h p,.h (lb q .r l)]= .oK (.h .r,[sf C sn D W]):=by
 cases h with
 |d=>exact λq m o=>absurd ((An rfl q m tw).symm.trans o) fO
 |dI=>exact λq m o=>absurd ((An rfl q m tw).symm.trans o) fO
 |top=>exact λq m o=>ax (ax (Ws k _ D W p l) tw (bN tw)) q (ic.mpr ⟨m,o⟩)
def Sn.send(h:Sn C sn x tw)(k)(D W)(p)(l)(y):∀c∈fu,yY x tw c=true->aa GP (k+2) 29 [sf C sn D W,.h p,.h (lb (bq,y,nv 0) c l)]= .oK (.h .r,[sf C sn D W]):=by
 cases h with
 |d=>exact λq m o=>ax (ax (SW k _ _ D W p l) tw (bN tw)) q (ic.mpr ⟨m,o⟩)
 |dI=>exact λq m o=>ax (ax (SW k _ _ D W p l) tw (bN tw)) q (ic.mpr ⟨m,o⟩)
 |top=>exact λq m o=>ax (ax (Wh k _ D W p l) tw (bN tw)) q (ic.mpr ⟨m,o⟩)
def JD:∀q∈eT,(AO q.1=true->q∈gX++lM)/\((q.1==gD || q.1==gC)=true->q∈mX):=by
 intro q m;exact d3 (ax (by kernel_rfl:(eT.map λq=>(!AO q.1 || ru (gX++lM) q)&&(!(q.1==gD || q.1==gC) || ru mX q))=eT.map tt) q m) λB A=>(⟨λh=>by rw[h]at B;exact eE B,λh=>by rw[h]at A;exact eE A⟩)
def CQ:List Tx:=[gD,gC]
def rk(h:rl x tw q=true):uL q=false:=by
 unfold rl at h;unfold uL;cases e1:q.1==fm
 ·rw[show(q.1==vl)=false from e1]at h;cases e2:(q.1==ip || q.1==i6)&&As q.2.1==5
  ·rfl
  ·rw[e2]at h;cases h
 ·rw[show(q.1==vl)=true from e1]at h;cases h
def xq(A:rest[(0:Nat)]? =some (.h p))(B:rest[(1:Nat)]? =some (.h r))(h:aa GP n f [sf C sn D W,.h p,.h r]= .oK (.h .r,[sf C sn D W])):Ex n (sf C sn D W::rest) (.ex (.K (.sm 3 f) [0] [.r 1,.r 2])) (sf C sn D W::rest):=
 sN (σ:=Unit) (S:=λz=>sf C sn D W) (o:=some ()) (.u (.H A) (.u (.H B) .j)) h
def Jv:List IS:=match bk 32 1 with
 |.l _ _ _ _ b=>b
 |_ =>[]
def Ev.XK(h:Ev n ah e (nv a))(h':Ev n ah B (nv b))(A:a<b):Ev n ah (.I e [.ge] [B]) (bv false):=.I h h' (congrArg some (decide_eq_false λc=>absurd (Int.ofNat_le.mp c) (Nat.not_le_of_lt A)))
def DL(k)(c:CO C R A S K kd nm)(D W)(p)(m:o∈gS 4)(E:t<R.length)(l):aa GP (k+5) 27 [sf C sn D W,.h p,.h (lb (o,nv t,.r) .r l)]= .oK (.h .r,[sf C sn D W]):=by
 have B:Ev (k+4) [sf C sn D W,.h p,.h (lb (o,nv t,.r) .r l),.h (.j ⟨#[112]⟩),.h (.tup [nv t,.r,.r]),.h (nv 0),.h (.j ⟨#[112]⟩),.a] (.and [.w (.a 2 0 [.r 2]) (.M 4),.I (.a 2 1 [.r 2]) [.ge] [.n [.a 4 4 [.H 0 (some (5,0))]]]]) (bv (du o&&false)):=.U (.and (.Y (r:=⟨o,nv t,.r,.r,l⟩) (.H rfl) (.V rfl)) λz=>.dI (.XK (.g (.H rfl) rfl) (.qW c) E));rw[Bool.and_false]at B;exact aO (fl:=.a) rfl rfl (Xs.I (l1:=[bk 27 0,bk 27 1,bk 27 2,bk 27 3]) (ax (Wk k C sn D W p l t) o m) (.u (.z B .j) .j)) rfl
def iP(m:q∈eT):m9 x tw ⟨q.1,q.2.1,q.2.2,.r,l⟩=rl x tw q:=by
 obtain⟨B,A⟩:=Bool.or_eq_false_iff.mp (vb q m);unfold m9;rw[show dB ⟨q.1,q.2.1,q.2.2,.r,l⟩=false from B,show(RD.op ⟨q.1,q.2.1,q.2.2,.r,l⟩==bq)=false from A];rfl
def zV(k:Nat)(c:CO C R A S K kd nm)(h:Sn C sn x tw)(E:sy r)(I:dB r=true->b9 r<R.length)(B:m9 x tw r=true)(D W:List AV)(p:AV)(z:SV):Xs (k+5) [sf C sn D W,.h p,.h r.v,z] Jv (.oK (.a,[sf C sn D W,.h p,.h r.v,z])):=by
 refine(λ{b} t L H G=>.u (xq rfl rfl L) (.u (.z t (by
  induction b using aR
  ·exact .j
  ·exact .u (xq rfl rfl (H rfl)) .j)) (.u (xq rfl rfl G) .j)):∀{b:Bool},Ev (k+5) [sf C sn D W,.h p,.h r.v,z] (.w (.a 2 0 [.r 2]) (.u [.t xX,.t wU])) (bv b)->aa GP (k+5) 27 [sf C sn D W,.h p,.h r.v]= .oK (.h .r,[sf C sn D W])->(b=true->aa GP (k+5) 28 [sf C sn D W,.h p,.h r.v]= .oK (.h .r,[sf C sn D W]))->aa GP (k+5) 29 [sf C sn D W,.h p,.h r.v]= .oK (.h .r,[sf C sn D W])->Xs (k+5) [sf C sn D W,.h p,.h r.v,z] Jv (.oK (.a,[sf C sn D W,.h p,.h r.v,z]))) (Ev.Y (n:=k+5) (ah:=[sf C sn D W,.h p,.h r.v,z]) (e:=.r 2) (t:=.u [.t xX,.t wU]) (r:=r) (S:=CQ) (.H rfl) (.y .d .d rfl)) ?_ ?_ ?_
 ·cases E with
  |j m t l=>exact DL k c D W p m (I (List.any_eq_true.mpr ⟨_,m,beq_self_eq_true _⟩)) l
  | @t q m l=>
   exact ax (S3 k C sn D W p l) q (ic.mpr ⟨m,by rw[rk ((iP m).symm.trans B)];rfl⟩)
  | @s q m u mc l=>exact yf (Wl k C sn D W p l) q m u mc
 ·intro e
  cases E with
  |j m t l=>
   exact absurd ((ax (by kernel_rfl:((gS 4).map λo=>aH CQ (some ⟨o,.r,.r,.r,0⟩))=(gS 4).map λZ=>false) _ m).symm.trans e) fO
  | @t q m l=>
   refine h.sl (k+3) D W p l q ((JD q m).2 ?_) ((iP m).symm.trans B);rcases Bool.or_eq_true_iff.mp e with e |e
   ·rw[show q.1=gD from(eq_of_beq e).symm];rfl
   ·rw[show q.1=gC from(eq_of_beq ((Bool.or_false _).symm.trans e)).symm];rfl
  | @s q m u mc l=>
   exact absurd ((by kernel_rfl:aH CQ (some ⟨bq,.r,.r,.r,0⟩)=false).symm.trans ((congrArg (λo=>aH CQ (some ⟨o,.r,.r,.r,0⟩)) (g5 m)).symm.trans e)) fO
 ·cases E with
  |j m t l=>exact ax (Wu (k+3) C sn D W p l _ _ _) _ m
  | @t q m l=>
   have B:=(iP m).symm.trans B;cases e:AO q.1
   ·exact ax (Wv (k+3) C sn D W p l) q (ic.mpr ⟨m,by rw[e];rfl⟩)
   ·exact h.ch (k+3) D W p l q ((JD q m).1 e) B
  | @s q m u mc l=>
   refine bZ m λy M F=>?_;obtain rfl:=F;exact h.send (k+3) D W p l y u mc B
def jc:List Q3:=[(fm,.r,.r),(ip,nv 5,.r),(i6,nv 5,.r),(gD,nv 0,nv 7),(gC,nv 1,nv 0),(bT,nv 0,.r),(bT,nv 1,.r),(bT,nv 9,.r)]
def Xs.bG(h:eG GP (aa GP n) s ah= .bG):Xs n ah (s::l) .bG:=by
 show(eG GP (aa GP n) s ah).i _=_
 rw[h];rfl
def jN(B:GP.fns f=some (fd f))(A:(args.length.ble (fd f).2.1&&(fd f).2.1.ble (args.length+(fd f).2.2.1.length))=true)(h:Xs n (env0 f args) (fd f).1 .bG):aa GP (n+1) f args= .bG:=by
 show(aD.d (GP.fns f)).i _=_
 rw[B]
 show(if args.length<=(fd f).2.1/\(fd f).2.1<=args.length+(fd f).2.2.1.length then(aG GP (aa GP n) (fd f).1 (env0 f args)).i _ else _)=_
 rw[Bool.and_eq_true,Nat.ble_eq,Nat.ble_eq]at A;rw[if_pos A,show aG GP (aa GP n) (fd f).1 (env0 f args)=_ from h];rfl
def n7(A:rest[(0:Nat)]? =some (.h p))(B:rest[(1:Nat)]? =some (.h r))(h:aa GP n f [sf C sn D W,.h p,.h r]= .bG):eG GP (aa GP n) (.ex (.K (.sm 3 f) [0] [.r 1,.r 2])) (sf C sn D W::rest)= .bG:=
 sN (σ:=Unit) (S:=λz=>.a) (o:=none) (.u (.H A) (.u (.H B) .j)) h
def QY(k:Nat)(S:SV)(p:AV)(l:Int):(gX.map λq=>aG GP (aa GP (k+1)) [bk 29 0] (env0 29 [S,.h p,.h (lb q .r l)]))=gX.map λq=>.oK (.a,[S,.h p,.h (lb q .r l),.h (.tup [q.2.1,.j aP]),.a,.a]):=by kernel_rfl
def X0:IE:=.or [.o [.I (.i 0) [.le,.lt] [.r 4,.n [.a 4 6 [.H 0 (some (5,0))]]]],.I (.a 4 0 [.x [.a 4 6 [.H 0 (some (5,0))],.r 4]]) [.ne] [.r 5]]
def QZ(k:Nat)(D W:List AV)(p:AV)(l:Int):(bb.map λtw=>(gX.filter λq=> !rl ⟨[3],2⟩ tw q).map λq=>ev GP (aa GP (k+1)) X0 [sf (eR kd nm pr B R A [eR (sr tw).1 I E L P H G U,eR (sr tw).2 Q C F M N O S] Z) sn D W,.h p,.h (lb q .r l),.h (.tup [q.2.1,.j aP]),.h q.2.1,.h (.j aP)])=bb.map λtw=>(gX.filter λq=> !rl ⟨[3],2⟩ tw q).map λq=>.oK (.u true,[sf (eR kd nm pr B R A [eR (sr tw).1 I E L P H G U,eR (sr tw).2 Q C F M N O S] Z) sn D W,.h p,.h (lb q .r l),.h (.tup [q.2.1,.j aP]),.h q.2.1,.h (.j aP)]):=by kernel_rfl
def X2:IE:=.or [.I (.a 2 1 [.r 2]) [.ge] [.n [.H 0 (some (5,1))]],.I (.a 2 2 [.r 2]) [.ge] [.n [.a 4 3 [.x [.H 0 (some (5,1)),.a 2 1 [.r 2]]]]]]
def Q0(k:Nat)(D W:List AV)(p:AV)(l:Int):([(gD,nv 0,nv 7),(gC,nv 1,nv 0)].map λq=>ev GP (aa GP (k+1)) X2 [sf C (.aj [eR kd nm pr [.j s,.j t,.j u] R A K Z]) D W,.h p,.h (lb q .r l)])=[(gD,nv 0,nv 7),(gC,nv 1,nv 0)].map λq=>.oK (.u true,[sf C (.aj [eR kd nm pr [.j s,.j t,.j u] R A K Z]) D W,.h p,.h (lb q .r l)]):=by kernel_rfl
def Ek(h:bu GP (aa GP n) es ah= .oK (vs,env1))(C:bz k vs=some (v::l))(A:aN tg tup v env1= .oK env2)(B:Xs n env2 body .bG):eG GP (aa GP n) (.l tg tup k es body) ah= .bG:=by
 show(bu GP (aa GP n) es ah).i _=_
 rw[h]
 show(aD.d (bz k vs)).i _=_
 rw[C]
 show(aN tg tup v env1).i _=_
 rw[A]
 show(aG GP (aa GP n) body env2).i _=_
 rw[show aG GP (aa GP n) body env2=_ from B];rfl
def jD(h:Ev n ah t (bv true))(h1:Xs n ah c .bG):eG GP (aa GP n) (.d t c d) ah= .bG:=h_ h h1
def Hc:∀o∈[ip,i6],o.length<=10:=by decide
def XM(k:Nat)(S:SV)(p:AV)(l:Int):([ip,i6].map λo=>aG GP (aa GP (k+2)) [bk 27 0,bk 27 1] (env0 27 [S,.h p,.h (lb (o,nv 5,.r) .r l)]))=[ip,i6].map λo=>.oK (.a,[S,.h p,.h (lb (o,nv 5,.r) .r l),.h (.j ⟨#[110]⟩),.h (.tup [nv 5,.r,.r]),.a,.a,.a]):=by kernel_rfl
def JA(k:Nat)(c:CO C R A S K kd nm)(D W:List AV)(B:p<=100)(l:Int)(m:o∈[ip,i6]):aa GP (k+3) 27 [sf C sn D W,.h (nv p),.h (lb (o,nv 5,.r) .r l)]= .bG:=by
 refine jN rfl rfl (Xs.I (l1:=[bk 27 0,bk 27 1]) (ax (XM k (sf C sn D W) (nv p) l) o m) (.bG (Ek (v:=.tup [nv 0,.j ⟨#[110]⟩]) (env2:=[sf C sn D W,.h (nv p),.h (lb (o,nv 5,.r) .r l),.h (.j ⟨#[110]⟩),.h (.tup [nv 5,.r,.r]),.h (nv 0),.h (.j ⟨#[110]⟩),.a]) (mW.u (.H rfl) .j) rfl rfl (.bG (jD (.not (b:=false) (.K (.u (.H rfl) (.u (.H rfl) (.u (.y (.H rfl) (.H rfl) rfl) .j))) (by kernel_rfl))) (.bG (g4 c B (.H rfl) (.G (.G (a:=10) (.mk o (.g (.H rfl) rfl) (Hc o m)) (.d (m:=20) (by decide)) rfl) (.nat (.H rfl) (da _)) rfl) rfl)))))))
def Of(k:Nat)(c:CO C R A S K kd nm)(D W:List AV)(B:p<=100)(l:Int):aa GP (k+2) 27 [sf C sn D W,.h (nv p),.h (lb (fm,.r,.r) .r l)]= .bG:=by
 have h:aG GP (aa GP (k+1)) [] []= .oK (.a,[]):=rfl;exact jN rfl rfl (.bG (jD (by kernel_rfl:ev GP (aa GP (k+1)) (.or [.o [.op (.h 4) [.r 2]],.o [.op (.h 3) [.a 2 0 [.r 2]]],.op .j [.a 2 0 [.r 2]]]) [sf C sn D W,.h (nv p),.h (lb (fm,.r,.r) .r l),.a,.a,.a,.a,.a]= .oK (.u true,[sf C sn D W,.h (nv p),.h (lb (fm,.r,.r) .r l),.a,.a,.a,.a,.a])) (.bG (g4 c B (.H rfl) (.d (m:=100) (by decide)) rfl))))
def Ev.LY(h:aH CQ (some r)=b):Ev n [S,p,.h r.v,z] (.w (.a 2 0 [.r 2]) (.u [.t xX,.t wU])) (bv b):=h▸Ev.Y (S:=CQ) (.H rfl) (.y .d .d rfl)
def zW(k:Nat)(c:CO C R A S K kd nm)(N:Sn C sn ⟨[3],2⟩ tw)(H:q∈jc)(G:m9 ⟨[3],2⟩ tw ⟨q.1,q.2.1,q.2.2,.r,l⟩=false)(D W:List AV)(E:p<=100)(z:SV):Xs (k+5) [sf C sn D W,.h (nv p),.h (RD.v ⟨q.1,q.2.1,q.2.2,.r,l⟩),z] Jv .bG:=by
 have L:∀q∈eT,(uL q=false)->Ex (k+5) [sf C sn D W,.h (nv p),.h (RD.v ⟨q.1,q.2.1,q.2.2,.r,l⟩),z] (Jv.getD 0 .cont) [sf C sn D W,.h (nv p),.h (RD.v ⟨q.1,q.2.1,q.2.2,.r,l⟩),z]:=λq m o=>xq rfl rfl (ax (S3 k C sn D W (nv p) l) q (ic.mpr ⟨m,by rw[o];rfl⟩))
 cases N with
 |top=>
 have I:∀q∈[(gD,nv 0,nv 7),(gC,nv 1,nv 0)],q∈eT->aH CQ (some ⟨q.1,q.2.1,q.2.2,.r,l⟩)=true->uL q=false->Xs (k+5) _ Jv .bG:=λq m F o O=>.u (L q F O) (.bG (jD (.LY o) (.bG (n7 rfl rfl (jN rfl rfl (.bG (jD (ax (Q0 (k+3) D W (nv p) l) q m) (.bG (g4 c E (.H rfl) (.d (m:=100) (by decide)) rfl)))))))))
 refine(cu.mpr ⟨λy=>.bG (n7 rfl rfl (Of (k+3) c D W E l)),cu.mpr ⟨λy=>.bG (n7 rfl rfl (JA (k+2) c D W E l (.head _))),cu.mpr ⟨λy=>.bG (n7 rfl rfl (JA (k+2) c D W E l (.tail _ (.head _)))),cu.mpr ⟨λy=>?_,cu.mpr ⟨λy=>?_,λq H G=>?_⟩⟩⟩⟩⟩:∀q∈jc,m9 ⟨[3],2⟩ tw ⟨q.1,q.2.1,q.2.2,.r,l⟩=false->Xs (k+5) [sf _ _ D W,.h (nv p),.h (RD.v ⟨q.1,q.2.1,q.2.2,.r,l⟩),z] Jv .bG) q H G
 ·exact I _ (.head _) (iI _ (pq _ (eE (by kernel_rfl)))) (by kernel_rfl) (by kernel_rfl)
 ·exact I _ (.tail _ (.head _)) (iI _ (pq _ (eE (by kernel_rfl)))) (by kernel_rfl) (by kernel_rfl)
 have B:q∈gX:=by
  exact eE (ax (by kernel_rfl:([(bT,nv 0,AV.r),(bT,nv 1,.r),(bT,nv 9,.r)].map (ru gX))=[(bT,nv 0,AV.r),(bT,nv 1,.r),(bT,nv 9,.r)].map tt) q H)
 have F:q∈eT:=iI _ (iI _ (iI _ (iI _ (iI _ (pq _ B)))))
 have M:∀q∈gX,aH CQ (some ⟨q.1,q.2.1,q.2.2,.r,l⟩)=false/\uL q=false:=by
  have:(gX.map λq=>(aH CQ (some ⟨q.1,q.2.1,q.2.2,.r,l⟩),uL q))=gX.map λy=>(false,false):=by kernel_rfl
  exact λq m=>⟨congrArg Prod.fst (ax this q m),congrArg Prod.snd (ax this q m)⟩
 exact .u (L q F (M q B).2) (.u (.z (.LY (M q B).1) .j) (.bG (n7 rfl rfl (jN rfl rfl (Xs.I (l1:=[bk 29 0]) (ax (QY (k+3) _ (nv p) l) q B) (.bG (jD (.I (.H rfl) .d rfl) (.u (.r (.H rfl) rfl) (.bG (jD (ax (ax (QZ (k+3) D W (nv p) l) tw (bN tw)) q (ic.mpr ⟨B,by rw[((iP F).symm.trans G)];rfl⟩)) (.bG (g4 c E (.H rfl) (.d (m:=100) (by decide)) rfl))))))))))))
noncomputable def NZ:RV:=⟨true,0,0,false,0,true⟩
noncomputable def qe(n:Nat)(A:List CV)(vs:List RV):Nat->ST->Option ST
 |0,s=>some s
 |m+1,s=>match s.W.getLast? with
  |none=>some s
  |some p=>(qJ n A ⟨s.D,s.W.dropLast⟩ p (vs.getD p NZ) ((s.D.getD p none).getD 0)).bind (qe n A vs m)
theorem nY:qe n cs vs (m+1) s=match s.W.getLast? with
 |none=>some s
 |some p=>(qJ n cs ⟨s.D,s.W.dropLast⟩ p (vs.getD p NZ) ((s.D.getD p none).getD 0)).bind (qe n cs vs m):=rfl
def Ha(A:aa GP n f [sf C sn D W,.h p]=oR S o):eG GP (aa GP n) (.ex (.K (.sm 3 f) [0] [.P 0 (some (5,3))])) (sf C sn D (W++[p])::rest)=rO (λs=>S s::rest) o:=by
 show((bu GP (aa GP n) [.P 0 (some (5,3))] (sf C sn D (W++[p])::rest)).i _).i _=_
 rw[(by
  show((aD.d (W++[p]).getLast?).i _).i _=_
  rw[List.getLast?_concat];show aD.oK ([p],sf C sn D (W++[p]).dropLast::rest)=_
  rw[List.dropLast_concat]:bu GP (aa GP n) [.P 0 (some (5,3))] (sf C sn D (W++[p])::rest)= .oK ([p],sf C sn D W::rest))]
 show(((aa GP n f [sf C sn D W,.h p]).i _).i _).i _=_
 rw[A];cases o<;>rfl
def Og(h:Ev n ah t (bv true))(A:Xs n ah body (rO E o))(B:∀s,o=some s->wh n t body m (E s)=rO C (g s)):wh n t body (m+1) ah=rO C (o.bind g):=by
 induction o using aF with
 |none=>
  show(ev GP (aa GP n) t ah).i _=_
  rw[show ev GP (aa GP n) t ah=_ from h]
  show(aG GP (aa GP n) body ah).i _=_
  rw[show aG GP (aa GP n) body ah=_ from A];rfl
 |some s=>exact(Ff (fl:=.a) h A rfl).trans (B s rfl)
def tW:IE:=.I (.O 0 (some (5,3))) [.gt] [.i 0]
noncomputable def bW:List IS:=[.ex (.K (.sm 3 30) [0] [.P 0 (some (5,3))])]
def Ev.tW{s:ST}:Ev n (s.v C sn::rest) Mq.tW (bv ((0:Nat).blt s.W.length)):=.I (u:=nv s.W.length) (by
 show aD.oK (AV.m (s.W.map nv).length,s.v C sn::rest)=_
 rw[cz];rfl) .d (congrArg some (by
  cases e:(0:Nat).blt s.W.length
  ·exact decide_eq_false λc=>absurd (Nat.blt_eq.mpr (Int.ofNat_lt.mp c)) (by rw[e];exact fO)
  ·exact decide_eq_true (Int.ofNat_lt.mpr (Nat.blt_eq.mp e))))
def C4(k)(c:CB C B K kd nm)(o:∀r∈B.ag,(r.op==fm)=false)(x)(tw)(rest):∀(m:Nat) (s:ST) (F:Nat),m<=16->xP B.ag.length (50-m) s->s.W.length+(s.D.filter (·.isNone)).length<=m->(∀p∈s.W,(s.D.getD p none).isSome=true)->m<F->wh (k+4) tW bW F (s.v C sn::rest)=rO (λs=>s.v C sn::rest) (qe B.ag.length (B.aL.map mU) (B.ag.map (kP x tw)) m s):=by
 have done:∀(s:ST) (F:Nat),s.W=[]->0<F->wh (k+4) tW bW F (s.v C sn::rest)= .oK (.a,s.v C sn::rest):=λs F e G=>by
  have t:=Ev.tW (n:=k+4) (C:=C) (sn:=sn) (s:=s) (rest:=rest);rw[e]at t;rw[<-Nat.sub_add_cancel G];exact zc t
 intro m
 induction m with
 |zero=>exact λs F J J O J G=>done s F (List.length_eq_zero_iff.mp (Nat.le_zero.mp (az (eN _ _) O))) G
 |succ m Y=>
  intro s F H h O P G;rw[nY]
  induction e:s.W.getLast? using aF with
  |none=>exact done s F (List.getLast?_eq_none_iff.mp e) (Nat.zero_lt_of_lt G)
  |some p=>
   refine xb e λW a=>?_;obtain⟨D,S⟩:=s
   cases(show S=W++[p]from a)
   obtain⟨d,A⟩:=Option.isSome_iff_exists.mp (P p (iI _ (.head _)));have A:D.getD p none=some d:=A
   have N:p<B.ag.length:=by
    rw[<-(h.E:D.length=B.ag.length)];refine Nat.lt_of_not_le λz=>?_;rw[kM,List.getElem?_eq_none z]at A;cases A
   have R:=ij N;have Q:(W++[p]).length=W.length+1:=dc
   have I:W.length+(D.filter (·.isNone)).length<=m:=by
    exact Nat.le_of_succ_le_succ (zE (Q▸(O:(W++[p]).length+(D.filter (·.isNone)).length<=m+1)) (Nat.add_right_comm _ _ 1))
   have M:xP B.ag.length (50-(m+1)) ⟨D,W⟩:=⟨h.E,az (eN _ _) (az I (zT (Nat.le_of_succ_le H) rfl)),h.d⟩;have U:=C0 k (sn:=sn) c M (Nat.sub_le _ _) (Nat.le_sub_of_add_le (zT (i0 H 21) rfl)) (az I (zT (Nat.le_of_succ_le H) rfl)) A R (o _ (List.getElem_mem N)) x tw;show _=rO _ ((qJ B.ag.length (B.aL.map mU) ⟨D,(W++[p]).dropLast⟩ p ((B.ag.map (kP x tw)).getD p NZ) ((D.getD p none).getD 0)).bind _)
   rw[(by
    rw[kM,di,R];rfl:(B.ag.map (kP x tw)).getD p NZ=kP x tw B.ag[p]),A,List.dropLast_concat]
   have t:=Ev.tW (n:=k+4) (C:=C) (sn:=sn) (s:=⟨D,W++[p]⟩) (rest:=rest);rw[show(0:Nat).blt (ST.mk D (W++[p])).W.length=true from Nat.blt_eq.mpr (by rw[Q];exact Nat.succ_pos _)]at t;rw[<-Nat.sub_add_cancel (Nat.zero_lt_of_lt G)];have b:(ST.mk D (W++[p])).v C sn=sf C sn (D.map dv) (W.map nv++[nv p]):=congrArg (sf C sn (D.map dv)) (List.map_append (f:=nv) (l₁:=W) (l₂:=[p]));refine Og (E:=λs=>s.v C sn::rest) t ?_ λZ V=>?_
   ·rw[b];exact Xs.dI (Ha U)
   ·have i:=GI M (az c.E (by decide)) (M.d d (by
     rw[kM]at A
     induction e:D[p]? using aF with
     |none=>rw[e]at A;cases A
     |some y=>rw[e]at A;exact fk (e.trans (congrArg some A)))) (Bp (c.cls _ (List.getElem_mem N))) (λq L=>by
     refine bZ L λu l g=>?_;obtain rfl:=g;obtain⟨j,X,e⟩:=c.cs u l;show u.d.toNat<=_;rw[e]
     exact az X (Nat.le_sub_of_add_le (zT (i0 H 20) rfl))) (az I (zT (Nat.le_of_succ_le H) rfl)) V
    refine Y Z (F-1) (Nat.le_of_succ_le H) (i.oK.mono (Nat.le_of_eq (Nat.succ_pred_eq_of_pos (Nat.sub_pos_of_lt (zT H rfl))))) (by rw[i.w];exact I) (i.sw λq L=>P q (pq _ L)) (Nat.lt_sub_of_add_lt G)
noncomputable def fD(b:Bool):Option Unit:=bif b then some ()else none
def xp(f):∀l:List β,kh (λq z=>fD (f q)) l ()=fD (l.all f):=by
 intro l
 induction l with
 |nil=>rfl
 |cons q l A=>
  show(fD (f q)).bind (kh _ l)=fD (f q&&l.all f)
  cases f q
  ·rfl
  ·exact A
def Ts.name(c:CO C R A S K kd nm):Ts n (sf C sn D W::rest) (.op .c [.a 4 1 [.H 0 (some (5,0))]]) 10:=by
 obtain⟨⟨a,b,rfl⟩,h⟩:=c;exact .j (.g rfl rfl) h
def Ev.QL(h:Ev n ah a u)(F:Ev n ah e v)(I:Ev n ah B w)(D:Ev n ah A z)(H:d_ o u v=some true)(E:d_ o' v w=some true)(G:d_ C w z=some true):Ev n ah (.I a [o,o',C] [e,B,A]) (bv true):=by
 show(ev GP (aa GP n) a ah).i _=_
 rw[show ev GP (aa GP n) a ah=_ from h]
 show(ev GP (aa GP n) e ah).i _=_
 rw[show ev GP (aa GP n) e ah=_ from F]
 show(aD.d (d_ o u v)).i _=_
 rw[H]
 show(ev GP (aa GP n) B ah).i _=_
 rw[show ev GP (aa GP n) B ah=_ from I]
 show(aD.d (d_ o' v w)).i _=_
 rw[E]
 show(ev GP (aa GP n) A ah).i _=_
 rw[show ev GP (aa GP n) A ah=_ from D]
 show(aD.d (d_ C w z)).i _=_
 rw[G];rfl
def FF(h:a<=b):d_ .le (nv a) (nv b)=some true:=congrArg some (decide_eq_true (Int.ofNat_le.mpr h))
def LD(h:a<b):d_ .lt (nv a) (nv b)=some true:=congrArg some (decide_eq_true (Int.ofNat_lt.mpr h))
section
variable {n:Nat}{C sn:AV}{R A S K:List AV}{kd:AV}{nm:Tx}(c:CO C R A S K kd nm){D W:List AV}{rest:List SV}
include c
def CO.aL:Ev n (sf C sn D W::rest) (.a 4 5 [.H 0 (some (5,0))]) (.aj A):=by
 obtain⟨⟨a,b,rfl⟩,h⟩:=c;exact .g rfl rfl
def CO.aB:Ev n (sf C sn D W::rest) (.a 4 7 [.H 0 (some (5,0))]) (.aj S):=by
 obtain⟨⟨a,b,rfl⟩,h⟩:=c;exact .g rfl rfl
def CO.ag:Ev n (sf C sn D W::rest) (.a 4 4 [.H 0 (some (5,0))]) (.aj R):=by
 obtain⟨⟨a,b,rfl⟩,h⟩:=c;exact .g rfl rfl
def CO.f:Ev n (sf C sn D W::rest) (.a 4 0 [.H 0 (some (5,0))]) kd:=by
 obtain⟨⟨a,b,rfl⟩,h⟩:=c;exact .g rfl rfl
end
structure CK(n:Nat)(q:CT):Prop where
 s:q.s∈fw
 f:q.f<q.la
 la:q.la<=n
 t:q.t<n
 d:Li 20 q.d
def F9(q:CT):AV:=.aj [nv q.f,nv q.la,nv q.t,.m q.d]
def WL(k:Nat)(S:SV)(q:CT)(n z:SV):ev GP (aa GP (k+1)) (.w (.d (.u false)) (.B (.h 19 [.r 4]) [4] false .h [.r 3] [])) [S,.h q.v,n,.h (F9 q),.a]= .oK (.u false,[S,.h q.v,n,.h (F9 q),.a]):=by kernel_rfl
def GN:∀s∈fw,(gS 1).any (λy=>y==s)= !(s==pJ):=by
 exact ax (by kernel_rfl:(fw.map λs=>(gS 1).any λy=>y==s)=fw.map λs=> !(s==pJ))
def wq(k){B:BD}(c:CO C (B.ag.map RD.v) (B.aL.map CT.v) S K kd nm)(H:∀q∈B.aL,CK B.ag.length q)(D W):aa GP (k+2) 31 [sf C sn D W]=oR (λ_:Unit=>sf C sn D W) (fD ((B.aL.map mU).all (·.oK))):=by
 rw[List.all_map,<-xp];refine wy rfl rfl rfl (.last (t:=λ(j:SV×SV×SV) _ =>[j.1,j.2.1,j.2.2,.a]) ?_)
 exact(w7 (n:=k+1) (t:=bk 31 0) (j:=(SV.a,SV.a,SV.a)) (s:=()) (λ(_:Unit) (j:SV×SV×SV)=>[sf C sn D W,j.1,j.2.1,j.2.2,.a]) (λ(l:List CT) _ =>∀q∈l,q∈B.aL) CT.v (λq Z=>fD (((λx:CV=>x.oK)∘mU) q)) rfl (.u c.aL .j) rfl (λZ m=>m) λq l Z j E=>by
  have h:=H q (E q (.head _));obtain⟨d,L,I⟩:=h.d
  have A:Ev (k+1) [sf C sn D W,.h q.v,.h (nv B.ag.length),.h (F9 q),.a] (.or [.w (.d (.u false)) (.B (.h 19 [.r 4]) [4] false .h [.r 3] []),.I (.a 3 0 [.r 1]) [.a] [.M 1],.o [.I (.i 0) [.le,.lt,.le] [.x [.r 3,.i 0],.x [.r 3,.i 1],.r 2]]]) (bv (false || ((q.s==pJ) || !true))):=.Co (.or (b:=false) (WL k _ q _ .a) λZ=>.or (.I (.g (.H rfl) rfl) (.V rfl) (by
   rw[show d_ .a (.j q.s) (nT (gS 1))=_ from congrArg (Option.map (!·)) (jZ (gS 1) q.s),GN q.s h.s]
   exact congrArg some (Bool.not_not _))) λZ=>.dI (.not (.QL (u:=nv 0) (v:=nv q.f) (w:=nv q.la) (z:=nv B.ag.length) .d (.y (.H rfl) .d rfl) (.y (.H rfl) .d rfl) (.H rfl) (FF (da _)) (LD h.f) (FF h.la))))
  have F:Ev (k+1) [sf C sn D W,.h q.v,.h (nv B.ag.length),.h (F9 q),.a] (.I (.i 0) [.le,.lt] [.a 3 3 [.r 1],.r 2]) (bv (q.t.blt B.ag.length)):=.inR .d (.g (.H rfl) rfl) (.H rfl);rw[Nat.blt_eq.mpr h.t]at F;have G:Ev (k+1) [sf C sn D W,.h q.v,.h (nv B.ag.length),.h (F9 q),.a] (.or [.o [.I (.i 0) [.le,.lt] [.a 3 3 [.r 1],.r 2]],.I (.a 3 4 [.r 1]) [.lt] [.i 0]]) (bv (false || false)):=.Co (.or (.not F) λZ=>.dI (.lt (a:=d) (b:=0) (.g (.H rfl) (congrArg some (by rw[I]:(AV.m q.d)=nv d))) .d:Ev (k+1) [sf C sn D W,.h q.v,.h (nv B.ag.length),.h (F9 q),.a] (.I (.a 3 4 [.r 1]) [.lt] [.i 0]) (bv false)));refine .mk (j0:=(.h q.v,j.2.1,j.2.2)) (j1:=(.h q.v,.h (nv B.ag.length),.h (F9 q))) rfl (.u (.h (gk (B:=B.ag)▸Ev.qW c) rfl:Ex (k+1) [sf C sn D W,.h q.v,j.2.1,j.2.2,.a] (.h 2 false (.n [.a 4 4 [.H 0 (some (5,0))]])) [sf C sn D W,.h q.v,.h (nv B.ag.length),j.2.2,.a]) (.u (.h (.L (b:=true) (.g (.H rfl) rfl) (.op (.u (.g (.H rfl) rfl) (.u (.g (.H rfl) rfl) (.u (.g (.H rfl) rfl) (.u (.g (.H rfl) rfl) .j)))) rfl)) rfl:Ex (k+1) [sf C sn D W,.h q.v,.h (nv B.ag.length),j.2.2,.a] (.h 3 false (.L (.op (.h 5) [.r 1]) (.l [.a 3 1 [.r 1],.a 3 2 [.r 1],.a 3 3 [.r 1],.a 3 4 [.r 1]]) (.l [.d .r]))) [sf C sn D W,.h q.v,.h (nv B.ag.length),.h (F9 q),.a]) ?_)) λZ Z y m=>E y (.tail _ m);show Xs _ _ _ (rO _ (fD (!(q.s==pJ))));cases e:q.s==pJ
  ·rw[e]at A;exact .u (.z A .j) (.u (.z G .j) .j)
  ·rw[e]at A
   exact .bG (jD A (.bG ((Ts.G (Ts.name c) (.d (m:=100) (by decide)) rfl).q)))).elim λj q=>⟨j,q.1⟩
def m7(b:Bool)(n:Nat)(vs:List RV)(A:List CV)(st:List Nat):Option ST:=
 (fD (b&& !st.isEmpty)).bind λz=>(fD (vs.all (·.oK))).bind λz=>(fD (A.all (·.oK))).bind λz=>(kh (λp s=>jf n s p 0) st ⟨List.replicate n none,[]⟩).bind (qe n A vs n)
structure g_(C sn:AV)(B:BD)(K:List AV)(kd nm:Tx)(x:CX)(tw:Bool):Prop where
 co:CO C (B.ag.map RD.v) (B.aL.map CT.v) (B.aB.map nv) K (.j kd) nm
 sn:Sn C sn x tw
 kd:kd∈[aP,a_,bT]
 E:B.ag.length<=16
 cls:∀r∈B.ag,sy r
 jmp:∀r∈B.ag,dB r=true->b9 r<B.ag.length
 bF:∀r∈B.ag,m9 x tw r=false->x=⟨[3],2⟩/\∃q∈jc,∃l,r=⟨q.1,q.2.1,q.2.2,.r,l⟩
 aL:∀q∈B.aL,CK B.ag.length q
 g:B.aL.length<=4
 st:∀s∈B.aB,s<=100
def Ak(c:sy r)(h:m9 x tw r=true):(r.op==fm)=false:=by
 cases c with
 |j m t l=>
  exact ax (by kernel_rfl:((gS 4).map λo=>o==fm)=(gS 4).map λz=>false) _ m
 | @t q m l=>
  exact(Bool.or_eq_false_iff.mp (rk ((iP m).symm.trans h))).1
 | @s q m c mc l=>rw[show RD.op ⟨q.1,q.2.1,q.2.2,c,l⟩=bq from g5 m];rfl
def H_(f)(l):∀k,(eL k l).all (λq=>f q.2)=l.all f:=by
 induction l with
 |nil=>exact λz=>rfl
 |cons r l A=>exact λk=>congrArg (f r&& ·) (A (k+1))
def LQ:∀s∈[aP,a_,bT],(gS 0).any (λy=>y==s)= !(s==bT):=by
 exact ax (by kernel_rfl:([aP,a_,bT].map λs=>(gS 0).any λy=>y==s)=[aP,a_,bT].map λs=> !(s==bT))
noncomputable def sk(n:Nat):ST:=⟨List.replicate n none,[]⟩
def G5(n b):xP n b (sk n)/\(sk n).W.length+((sk n).D.filter (·.isNone)).length=n:=by
 refine⟨⟨uR,da _,λk m=>?_⟩,?_⟩
 ·cases(List.mem_replicate.mp m).2
 ·show 0+((List.replicate n (none:Option Nat)).filter (·.isNone)).length=n;rw[Nat.zero_add,List.filter_eq_self.mpr λx m=>by rw[(List.mem_replicate.mp m).2];rfl,uR]
def zS(k)(h:g_ C sn B K kd nm x tw):aa GP (k+6) 32 [(sk B.ag.length).v C sn]=oR (ST.v C sn) (m7 (!(kd==bT)) B.ag.length (B.ag.map (kP x tw)) (B.aL.map mU) B.aB):=by
 have c:CB C B K (.j kd) nm:=⟨h.co,h.E,h.cls,λq m=>(h.aL q m).d,h.g⟩;have N:=G5 B.ag.length (50-B.ag.length);refine wy rfl rfl rfl ?_;refine .seq (E:=λ_:Unit=>[(sk B.ag.length).v C sn,.a,.a,.a]) ?_ λJ J=>?_
 ·have H:Ev (k+5) [(sk B.ag.length).v C sn,.a,.a,.a] (.or [.I (.a 4 0 [.H 0 (some (5,0))]) [.a] [.M 0],.q (.n [.a 4 7 [.H 0 (some (5,0))]]) (.i 0)]) (bv ((kd==bT) || B.aB.isEmpty)):=.Co (.or (.I h.co.f (.V rfl) (by
   rw[show d_ .a (.j kd) (nT (gS 0))=_ from congrArg (Option.map (!·)) (jZ (gS 0) kd),LQ kd h.kd]
   exact congrArg some (Bool.not_not _))) λJ=>.dI (.I (.E h.co.aB) .d (by
   rw[cz]
   cases B.aB<;>rfl)))
  show _=rO _ (fD (!(kd==bT)&& !B.aB.isEmpty));rw[<-Bool.not_or]
  cases e:(kd==bT) || B.aB.isEmpty
  ·rw[e]at H;exact h_ H .j
  ·rw[e]at H;exact jD H (.bG (Ts.d (m:=100) (by decide)).q)
 ·have G:=w7 (n:=k+5) (t:=bk 32 1) (j:=(SV.a,SV.a)) (s:=()) (λ(_:Unit) (j:SV×SV)=>[(sk B.ag.length).v C sn,j.1,j.2,.a]) (λ(l:List (Nat×RD)) _ =>∀q∈l,q∈eL 0 B.ag) ep (λq J=>fD (m9 x tw q.2)) rfl (.u h.co.ag .j) (congrArg some (uo B.ag 0)) (λJ m=>m) λq l J j A=>by
   have P:=Br (A q (.head _));have M:=fk P;have Y:q.1<=100:=az (fj (mE.mp P).1) (az h.E (by decide));refine .mk (j0:=(.h (nv q.1),.h q.2.v)) (j1:=(.h (nv q.1),.h q.2.v)) rfl ?_ λJ J y m=>A y (.tail _ m);cases e:m9 x tw q.2
   ·refine bB λg R=>?_;obtain⟨u,z,Z,o,X⟩:=h.bF _ M e;subst u;refine R ?_;rw[X]at e|-;exact zW k h.co h.sn Z e _ _ Y .a
   ·exact zV k h.co h.sn (h.cls _ M) (λS=>by rw[gk];exact h.jmp _ M S) e _ _ _ .a
  obtain⟨⟨F,I⟩,G,-⟩:=G;rw[xp,H_ (m9 x tw) B.ag 0]at G;show y6 _ ((fD ((B.ag.map (kP x tw)).all (·.oK))).bind _) _;rw[List.all_map];refine .seq G λJ O=>.seq (E:=λ_:Unit=>[(sk B.ag.length).v C sn,F,I,.a]) (sN (vs:=[]) .j (wq (k+3) h.co h.aL _ _)) λJ J=>?_
  have L:=w7 (n:=k+5) (t:=bk 32 3) (j:=SV.a) (s:=sk B.ag.length) (λ(s:ST) j=>[s.v C sn,F,I,j]) (λ(l:List Nat) s=>(∀q∈l,q∈B.aB)/\Cb B.ag.length (50-B.ag.length) (sk B.ag.length) s) nv (λp s=>jf B.ag.length s p 0) rfl (.u h.co.aB .j) rfl ⟨λJ m=>m,N.1,rfl,id⟩ λq l s j A=>by
   refine .mk (j0:=.h (nv q)) (j1:=.h (nv q)) rfl (Xs.dI (c.reach (k+3) (A.2.oK.mono (az (Nat.sub_le _ _) (by decide))) (h.st q (A.1 q (.head _))) (da _) (.H rfl) .d (.H rfl))) λf e=>⟨λy m=>A.1 y (.tail _ m),?_⟩;have i:=iM A.2.oK (az h.E (by decide)) (da _) (by rw[A.2.w,N.2];exact az h.E (by decide):s.W.length+(s.D.filter (·.isNone)).length<=200) e;exact⟨i.oK,i.w.trans A.2.w,λz=>i.sw (A.2.sw z)⟩
  obtain⟨Q,L,U⟩:=L;refine .seq L λs V=>?_;have i:=(U s V).2
  exact .last (JT:=Unit) (t:=λJ J=>[F,I,Q]) ⟨(),C4 (k+1) c (λr m=>Ak (x:=x) (tw:=tw) (h.cls r m) (by
   cases e:B.ag.all (m9 x tw)
   ·rw[show B.ag.all ((λx=>x.oK)∘kP x tw)=false from e]at O;cases O
   ·exact List.all_eq_true.mp e r m):∀r∈B.ag,(r.op==fm)=false) x tw [F,I,Q] B.ag.length s 1000 h.E i.oK (by rw[i.w,N.2];exact fh _) (i.sw (gy _)) (eV h.E (by decide))⟩
def sT(h:ah[(0:Nat)]? =some (.e k l)):qg k l.length ah=some l:=by
 unfold qg;rw[h];exact if_pos ⟨rfl,rfl⟩
def Ex.E(h:Ev n ah e v)(B:ah[(0:Nat)]? =some (.e k l))(A:l.length=i):Ex n ah (.E k i false e) (ah.set 0 (.e k (l++[.v v]))):=by
 subst A
 show((ev GP (aa GP n) e ah).i _).i _=_
 rw[show ev GP (aa GP n) e ah=_ from h]
 show(aD.d (qg k l.length ah)).i _=_
 rw[sT B];rfl
def Ex.B(h:Ev n ah (.op o es) (.aj v))(B:ah[(0:Nat)]? =some (.e k l))(A:l.length=i):Ex n ah (.E k i true (.op o es)) (ah.set 0 (.e k (l++[.o v]))):=by
 subst A
 show((ev GP (aa GP n) (.op o es) ah).i _).i _=_
 rw[show ev GP (aa GP n) (.op o es) ah=_ from h]
 show(aD.d (qg k l.length ah)).i _=_
 rw[sT B];rfl
def CO.d{nm:Tx}(c:CO C R A S K kd nm):hZ GP (.A 4 6) [C]=some (.aj K):=by
 obtain⟨⟨a,b,rfl⟩,-⟩:=c;rfl
inductive Seen:Tx->AV->AV->AV->Prop
 |d {C:AV} {l:List AV} (hl:l.length<1000):Seen aP C (.aj l) (.aj (C::l))
 |e {kd:Tx} {C o:AV} (h:kd∈[a_,bT]):Seen kd C o (.aj [C])
def D9(k:Nat)(c:CO C R A S K (.j kd) nm)(hs:Seen kd C o sn)(F:R.length<=100):aa GP (k+1) 24 [.e 5 [],.h C,.h o]= .oK (.h .r,[(sk R.length).v C sn]):=by
 have D:Ev k [.e 5 [.v C],.h C,.h o] (.L (.q (.a 4 0 [.r 1]) (.t yV)) (.op .w [.r 1,.r 2]) (.l [.r 1])) sn:=.L ((λl=>.I (u:=.j kd) (.g (.H rfl) (by obtain⟨⟨a,b,rfl⟩,-⟩:=c;rfl)) .d rfl:∀l,Ev k [.e 5 l,.h C,.h o] (.q (.a 4 0 [.r 1]) (.t yV)) (bv (kd==aP))) _) (by
  cases hs with
  |d E=>exact .y (.H rfl) (.H rfl) (if_pos ⟨lH 1,E⟩)
  |e h=>
   rw[show(kd==aP)=false from ax (by kernel_rfl:([a_,bT].map λy=>y==aP)=[a_,bT].map λz=>false) kd h]
   exact .g (.H rfl) rfl)
 have B:Ev k [.e 5 [.v C,.v sn],.h C,.h o] (.op .a [.l [.d .r],.n [.a 4 4 [.r 1]]]) (.aj (List.replicate R.length .r)):=.y (.g .d rfl) (.E (.g (.H rfl) (by obtain⟨⟨a,b,rfl⟩,-⟩:=c;rfl))) (vz (az F (by decide)));have e:(sk R.length).v C sn=sf C sn (List.replicate R.length .r) []:=congrArg (sf C sn · []) List.map_replicate;rw[e];exact aO (fl:=.a) rfl rfl (.u (.E (.H rfl) rfl rfl) (.u (.E D rfl rfl) (.u (.B B rfl rfl) (.u (.B (.op .j rfl) rfl rfl) .j)))) rfl
def Ex.K(h:mW n ah es vs)(A:aa GP n (GP.a c) (.e (c+2) []::vs.map .h)= .oK (.h .r,[.e k l]))(B:x.blt ah.length=true):Ex n ah (.h x true (.K (.new c) [] es)) (ah.set x (.e k l)):=by
 show((bu GP (aa GP n) es ah).i _).i _=_
 rw[show bu GP (aa GP n) es ah=_ from h]
 show(((aa GP n (GP.a c) (.e (c+2) []::vs.map .h)).i _).i _).i _=_
 rw[A]
 show(aV ah x (.e k l)).i _=_
 rw[cq B];rfl
def JH:IE:=.I (.B (.r 4) [4] false .h [.a 4 6 [.r 0]] [.o [.op (.h 6) [.r 4]]]) [.ne] [.l []]
def Sn.kids(h:Sn C sn x tw)(n:Nat)(o S:SV):ev GP (aa GP n) JH [.h C,o,S,.a,.a]= .oK (.u false,[.h C,o,S,.a,.a]):=by cases h<;>kernel_rfl
def DG:Option ST->aD (SV×List SV)
 |some s=>.oK (.h (.aj (s.D.map dv)),[])
 |none=>.bG
def ON(h:aa GP n 32 [sf C sn D W]=oR (ST.v C sn) o):eG GP (aa GP n) (.ex (.K (.sm 3 32) [2] [])) [a,b,sf C sn D W,c,d]=rO (λs=>[a,b,s.v C sn,c,d]) o:=by
 show(((aa GP n 32 [sf C sn D W]).i _).i _).i _=_
 rw[h];cases o<;>rfl
def BF(c:CO C R A S K (.j kd) nm)(I:R.length<=100)(G:Sn C sn x tw)(hs:Seen kd C o sn)(L:aa GP (n+1) 32 [(sk R.length).v C sn]=oR (ST.v C sn) m)(H:∀s:ST,∃a b,Xs (n+1) [.h C,.h o,s.v C sn,.a,.a] [bk 33 3,bk 33 4] (.oK (.C (.h (.aj (s.D.map dv))),[.h C,.h o,a,b,.a]))):aa GP (n+2) 33 [.h C,.h o]=DG m:=by
 have E:Ex (n+1) (env0 33 [.h C,.h o]) (bk 33 0) [.h C,.h o,(sk R.length).v C sn,.a,.a]:=.K (c:=3) (.u (.H rfl) (.u (.H rfl) .j)) (D9 n c hs I) rfl;have F:Ex (n+1) [.h C,.h o,(sk R.length).v C sn,.a,.a] (bk 33 1) [.h C,.h o,(sk R.length).v C sn,.a,.a]:=.z (b:=false) (G.kids (n+1) _ _) .j;have B:=ON (a:=.h C) (b:=.h o) (c:=.a) (d:=.a) L
 induction m using aF with
 |none=>exact jN rfl rfl (.u E (.u F (.bG B)))
 |some s=>
  obtain⟨a,b,h⟩:=H s;exact aO rfl rfl (.u E (.u F (.u B h))) rfl
def fz(C sn:AV)(s:ST):SV:=.h (.n 5 [C,sn,.aj (s.D.map dv),.aj (s.W.map nv)])
def ZZ(C sn:AV)(s:ST):List SV:=[s.v C sn,fz C sn s]
def Fp(n:Nat)(C sn:AV)(s:ST)(a b c d:SV):((ZZ C sn s).map λZ=>aG GP (aa GP n) [bk 33 4] [a,b,Z,c,d])=(ZZ C sn s).map λz=>.oK (.C (.h (.aj (s.D.map dv))),[a,b,fz C sn s,c,d]):=by kernel_rfl
def rR(k)(h:g_ C sn B [] kd nm x tw)(hs:Seen kd C o sn):aa GP (k+7) 33 [.h C,.h o]=DG (m7 (!(kd==bT)) B.ag.length (B.ag.map (kP x tw)) (B.aL.map mU) B.aB):=by
 refine BF (n:=k+5) h.co (by rw[gk];exact az h.E (by decide)) h.sn hs (by rw[gk];exact zS k h) λs=>⟨_,_,.u (.a (items:=[]) (.u (.g (.H rfl) h.co.d) .j) rfl rfl) (ax (Fp (k+6) C sn s _ _ _ _) _ (.head _))⟩
def IL:List IE:=[.r 3,.L (.q (.a 4 0 [.r 3]) (.t yV)) (.a 5 1 [.r 2]) (.u [])]
def II(n:Nat)(C sn:AV)(s:ST)(a b d:SV)(nm:Tx)(D:AV)(B R A K S:List AV):((ZZ C sn s).map λZ=>[(aP,sn,fz C sn s),(a_,.tup [],Z)].map λq=>bu GP (aa GP n) IL [a,b,Z,.h (eR q.1 nm D B R A K S),d])=(ZZ C sn s).map λZ=>[(aP,sn,fz C sn s),(a_,.tup [],Z)].map λq=>.oK ([eR q.1 nm D B R A K S,q.2.1],[a,b,q.2.2,.h (eR q.1 nm D B R A K S),d]):=by kernel_rfl
def FJ(n)(H:kd=aP/\aa GP n 33 [.h (eR kd nm pr B R A K S),.h sn]= .oK (.h w,[])\/kd=a_/\aa GP n 33 [.h (eR kd nm pr B R A K S),.h (.tup [])]= .oK (.h w,[])):∀Z∈ZZ C sn s,∃D∈ZZ C sn s,Xs n [a,b,Z,.h (eR kd nm pr B R A K S),d] [.ex (.h 33 IL)] (.oK (.a,[a,b,D,.h (eR kd nm pr B R A K S),d])):=by
 intro Z F
 have G:∀o D,bu GP (aa GP n) IL [a,b,Z,.h (eR kd nm pr B R A K S),d]= .oK ([eR kd nm pr B R A K S,o],[a,b,D,.h (eR kd nm pr B R A K S),d])->aa GP n 33 [.h (eR kd nm pr B R A K S),.h o]= .oK (.h w,[])->Xs n [a,b,Z,.h (eR kd nm pr B R A K S),d] [.ex (.h 33 IL)] (.oK (.a,[a,b,D,.h (eR kd nm pr B R A K S),d])):=λo D e h=>by
  show(((bu GP (aa GP n) IL _).i _).i _).i _=_
  rw[e]
  show((((aa GP n 33 [.h (eR kd nm pr B R A K S),.h o]).i _).i _).i _).i _=_
  rw[h];rfl
 have E:=ax (II n C sn s a b d nm pr B R A K S) Z F;rcases H with⟨rfl,h⟩|⟨rfl,h⟩
 ·exact⟨_,.tail _ (.head _),G _ _ (ax E _ (.head _)) h⟩
 ·exact⟨Z,F,G _ _ (ax E _ (.tail _ (.head _))) h⟩
def xD(k){l1 N M O S1 D G F K2 E:List AV}(h:g_ C sn B [eR H Q P l1 N M O S1,eR A L I D G F K2 E] kd nm x tw)(hs:Seen kd C o sn)(h1:H=aP/\aa GP (k+6) 33 [.h (eR H Q P l1 N M O S1),.h sn]= .oK (.h X,[])\/H=a_/\aa GP (k+6) 33 [.h (eR H Q P l1 N M O S1),.h (.tup [])]= .oK (.h X,[]))(Y:A=aP/\aa GP (k+6) 33 [.h (eR A L I D G F K2 E),.h sn]= .oK (.h j,[])\/A=a_/\aa GP (k+6) 33 [.h (eR A L I D G F K2 E),.h (.tup [])]= .oK (.h j,[])):aa GP (k+7) 33 [.h C,.h o]=DG (m7 (!(kd==bT)) B.ag.length (B.ag.map (kP x tw)) (B.aL.map mU) B.aB):=by
 refine BF (n:=k+5) h.co (by rw[gk];exact az h.E (by decide)) h.sn hs (by rw[gk];exact zS k h) λs=>?_;refine bB λu S=>?_;obtain⟨R,U,V⟩:=FJ (k+6) (C:=C) (s:=s) (a:=.h C) (b:=.h o) (d:=.a) h1 (s.v C sn) (.head _);obtain⟨Z,W,q⟩:=FJ (k+6) (C:=C) (s:=s) (a:=.h C) (b:=.h o) (d:=.a) Y R U;refine S (⟨_,_,.u (.a (items:=[eR H Q P l1 N M O S1,eR A L I D G F K2 E]) (.u (.g (.H rfl) h.co.d) .j) rfl ?_) (ax (Fp (k+6) C sn s (.h C) (.h o) (.h (eR A L I D G F K2 E)) .a) Z W)⟩)
 show(aG GP (aa GP (k+6)) [.ex (.h 33 IL)] [.h C,.h o,s.v C sn,.h (eR H Q P l1 N M O S1),.a]).i _=_
 rw[show aG GP (aa GP (k+6)) _ _=_ from V]
 show(aG GP (aa GP (k+6)) [.ex (.h 33 IL)] [.h C,.h o,R,.h (eR A L I D G F K2 E),.a]).i _=_
 rw[show aG GP (aa GP (k+6)) _ _=_ from q];rfl
structure IT(h:Nat->Nat)(n:Nat)(vs:List RV)(cs:List CV)(st:List Nat):Prop where
 E:vs.length=n
 oK:∀r∈vs,r.oK=true
 t:∀(p:Nat) r,vs[p]? =some r->r.t<=h p
 j:∀(p:Nat) r,vs[p]? =some r->r.j=true->r.g<n/\h r.g=h p-r.t+r.u
 e:∀(p:Nat) r,vs[p]? =some r->r.e=false->p+1<n/\h (p+1)=h p-r.t+r.u
 c:∀q∈cs,q.oK=true/\q.t<n/\h q.t=q.d+1/\∀p,q.f<=p->p<q.la->q.d<=h p
 s:∀p∈st,p<n/\h p=0
 ne:st.isEmpty=false
structure Hs(h:Nat->Nat)(n:Nat)(s:ST):Prop where
 E:s.D.length=n
 d:∀p d,s.D.getD p none=some d->d=h p
 w:∀p∈s.W,p<n/\s.D.getD p none=some (h p)
section
variable {h:Nat->Nat}{n:Nat}
def Hs.reach(k:Hs h n s){p d:Nat}(B:p<n)(E:d=h p):∃C,jf n s p d=some C/\Hs h n C:=by
 subst E;unfold jf;rw[Nat.blt_eq.mpr B]
 induction e:s.D.getD p none using aF with
 |none=>
  have g:∀q,(s.D.set p (some (h p))).getD q none=if p=q then some (h p)else s.D.getD q none:=λq=>by
   rw[kM,List.getElem?_set]
   by_cases c:p=q
   ·rw[if_pos c,if_pos (show p<s.D.length from k.E▸B),if_pos c];rfl
   ·rw[if_neg c,if_neg c,<-kM]
  refine⟨_,rfl,eI.trans k.E,λq d A=>?_,λq m=>?_⟩
  ·have A:=(g q).symm.trans A
   by_cases c:p=q
   ·rw[if_pos c]at A;exact c▸(dG A).symm
   ·rw[if_neg c]at A;exact k.d q d A
  ·show _ /\(s.D.set p (some (h p))).getD q none=_;rw[g];rcases gM.mp m with m |m
   ·by_cases c:p=q
    ·exact⟨(k.w q m).1,by rw[if_pos c,c]⟩
    ·exact⟨(k.w q m).1,by rw[if_neg c];exact(k.w q m).2⟩
   ·cases dN.mp m;exact⟨B,if_pos rfl⟩
 |some q=>
  refine⟨s,?_,k⟩;rw[k.d p q e]
  show(bif h p==h p then some s else none)=some s
  rw[beq_self_eq_true];rfl
def Hs.fld{step:β->ST->Option ST}:∀(l:List β),(∀q∈l,∀s,Hs h n s->∃A,step q s=some A/\Hs h n A)->∀s,Hs h n s->∃A,kh step l s=some A/\Hs h n A:=by
 intro l
 induction l with
 |nil=>exact λz s k=>⟨s,rfl,k⟩
 |cons q l F=>
  intro B s k;obtain⟨A,C,G⟩:=B q (.head _) s k;obtain⟨D,H,E⟩:=F (λy m=>B y (.tail _ m)) A G;exact⟨D,(congrArg (Option.bind · (kh step l)) C).trans H,E⟩
def It(h:o=some a)(k:f a=some b):o.bind f=some b:=by rw[h];exact k
variable {vs:List RV}{cs:List CV}{st:List Nat}(H:IT h n vs cs st)
include H
def IT.a{s:ST}(k:Hs h n s){p:Nat}(B:vs[p]? =some r):f9 (λA=>qJ n cs s p r (h p)=some A) (λA=>Hs h n A):=by
 unfold qJ
 rw[show(h p).blt r.t=false from by
  cases e:(h p).blt r.t
  ·rfl
  ·exact absurd (Nat.blt_eq.mp e) (Nat.not_lt_of_le (H.t p r B))]
 refine bB λU E=>?_
 obtain⟨A,F,D⟩:=(by
  induction e:r.j using aR
  ·exact⟨s,rfl,k⟩
  ·exact k.reach (H.j p r B e).1 (H.j p r B e).2.symm:∃A,(bif r.j then jf n s r.g (h p-r.t+r.u)else some s)=some A/\Hs h n A)
 obtain⟨C,L,O⟩:=(by
  induction e:r.e using aR
  ·exact D.reach (H.e p r B e).1 (H.e p r B e).2.symm
  ·exact⟨A,rfl,D⟩:∃C,(bif r.e then some A else jf n A (p+1) (h p-r.t+r.u))=some C/\Hs h n C)
 obtain⟨Q,N,S⟩:=Hs.fld (step:=uu n p (h p)) cs (λq m s k=>by
  obtain⟨-,G,R,I⟩:=H.c q m;unfold uu;cases e:q.f.ble p&&p.blt q.la
  ·exact⟨s,rfl,k⟩
  ·refine d3 e λP M=>?_
   rw[show(h p).blt q.d=false from by
    cases e:(h p).blt q.d
    ·rfl
    ·exact absurd (Nat.blt_eq.mp e) (Nat.not_lt_of_le (I p (iD P) (Nat.blt_eq.mp M)))]
   exact k.reach G R.symm) C O
 exact E (⟨Q,It F (It L N),S⟩)
def IT.b:∀(m:Nat) s,Hs h n s->∃A,qe n cs vs m s=some A:=by
 intro m
 induction m with
 |zero=>exact λs z=>⟨s,rfl⟩
 |succ m G=>
  intro s k;rw[nY]
  induction e:s.W.getLast? using aF with
  |none=>exact⟨s,rfl⟩
  |some p=>
   refine bB λM C=>?_;have w:=k.w p (List.mem_of_getLast? e);have B:=ij (H.E▸w.1:p<vs.length);obtain⟨A,E,L⟩:=H.a (⟨k.E,k.d,λq m=>k.w q ((List.dropLast_sublist _).subset m)⟩:Hs h n ⟨s.D,s.W.dropLast⟩) B;obtain⟨F,I⟩:=G A L;refine C (⟨F,It ?_ I⟩);rw[w.2,kM,B];exact E
def IT.run:∃B,m7 true n vs cs st=some B:=by
 obtain⟨B,A,E⟩:=Hs.fld (step:=λp s=>jf n s p 0) st (λq m s k=>k.reach (H.s q m).1 (H.s q m).2.symm) _ (⟨uR,λp d e=>(by
  rw[kM]at e
  induction A:(sk n).D[p]? using aF with
  |none=>rw[A]at e;cases e
  |some y=>
   rw[A]at e
   cases(List.mem_replicate.mp (fk A)).2
   cases e),gy _⟩:Hs h n (sk n))
 obtain⟨C,F⟩:=H.b n B E;refine⟨C,It (a:=()) ?_ (It (a:=()) ?_ (It (a:=()) ?_ (It A F)))⟩
 ·rw[H.ne];rfl
 ·rw[List.all_eq_true.mpr H.oK];rfl
 ·rw[List.all_eq_true.mpr λq m=>(H.c q m).1];rfl
end
structure GX where
 fl:Bool
 ow:Nat
 kd:Nat
structure mK where
 g:Int
 s:Int
 c:Int
def bx(b:mK)(g:GX):SV:=.aj [.m b.g,.m b.s,.m b.c,bv g.fl,nv g.ow,nv g.kd]
structure BX(m:Nat)(b:mK):Prop where
 g:0<=b.g
 s:0<=b.s
 s':b.s<2^31
 c:0<=b.c
 c':b.c+m<=2^20
def Uv(g:GX):IE->Option AV
 |.d c=>(match c with
  |.m i=>bif i==3 then some (bv g.fl)else bif i==4 then some (nv g.ow)else bif i==5 then some (nv g.kd)else none
  |_ =>none)
 |_ =>none
noncomputable def Hf{A P:Type}(B:P)(o:Option A)(k:A->P):P:=match o with |some v=>k v |none=>B
noncomputable def N3{P:Type}(A:P)(v:AV)(k:Bool->P):P:=match v with |.s (.u c)=>k c |_ =>A
noncomputable def SK(x:aD (SV×List SV)):Option AV:=match x with |.oK (.f (.v w),[])=>some w |_ =>none
section
variable {P:Type}(ff:P)(kQ:Nat->List AV->Nat->(AV->Nat->P)->P)(n:Nat)(g:GX)
mutual
noncomputable def wE:IE->Nat->List SV->(AV->Nat->List SV->P)->P
 |.d c,m,r,Q=>Q (.s c) m r
 |.H x p,m,r,Q=>(match x with
  |0=>ff
  |x+1=>Hf ff (Fq r x p) λv=>Q v.1 m v.2)
 |.at x p e,m,r,Q=>(match x,p with
  |0,none=>Hf ff (Uv g e) λv=>Q v m r
  |_,_ =>ff)
 |.op o es,m,r,Q=>wEs es m r λA m r=>Hf ff (hZ GP o A) λw=>Q w m r
 |.I a os es,m,r,Q=>(match os with
  |[o]=>bif es.length==1 then wE a m r λu m r=>wEs es m r λA m r=>Hf ff (d_ o u (A.getD 0 .r)) λb=>Q (bv b) m r
   else ff
  |_ =>ff)
 |.and es,m,r,Q=>CJ true es m r Q
 |.or es,m,r,Q=>CJ false es m r Q
 |.L t a b,m,r,Q=>wE t m r λv m r=>N3 ff v λc=>bif c then wE a m r Q else wE b m r Q
 |.K f ios es,m,r,Q=>wEs es m r λA m r=>match f,ios with
  |.fn f,[]=>Hf ff (SK (aa GP n f (A.map .h))) λw=>Q w m r
  |.fn f,[0]=>kQ f A m λw m=>Q w m r
  |_,_ =>ff
 |_,_,_,_ =>ff
noncomputable def wEs:List IE->Nat->List SV->(List AV->Nat->List SV->P)->P
 |[],m,r,Q=>Q [] m r
 |e::es,m,r,Q=>wE e m r λv m r=>wEs es m r λA m r=>Q (v::A) m r
noncomputable def CJ(d:Bool):List IE->Nat->List SV->(AV->Nat->List SV->P)->P
 |[],m,r,Q=>Q (bv d) m r
 |e::es,m,r,Q=>wE e m r λv m r=>N3 ff v λb=>bif b==d then CJ d es m r Q else Q (bv b) m r
end
end
structure LG{P:Type}(ff:P)(tr:P->Prop)(kQ:Nat->List AV->Nat->(AV->Nat->P)->P)(n:Nat)(g:GX):Prop where
 ff:¬tr ff
 kQ:∀f vs m Q,tr (kQ f vs m Q)->∀M b,BX (m+M) b->IW (λb' w m'=>BX (m'+M) b') (λb' w m'=>aa GP n f (bx b g::vs.map .h)= .oK (.h w,[bx b' g])) (λb' w m'=>tr (Q w m'))
inductive OE{P α:Type}(tr:P->Prop)(g:GX)(M:Nat)(res:aD (α×List SV))(Q:α->Nat->List SV->P):Prop
 |mk {b:mK} {v:α} {m:Nat} {r:List SV} (hb:BX (m+M) b) (h:res= .oK (v,bx b g::r)) (ht:tr (Q v m r))
def La(h:Fq r x p=some (v,r')):Fq (s::r) (x+1) p=some (v,s::r'):=by
 induction p using aF with
 |none=>
  refine dg h λz A C=>?_;refine pK C λw B e4=>?_
  show(r[x]?).bind _=_
  rw[A]
  show(z.q).map _=_
  rw[B];cases e4;rfl
 |some q=>
  have h:(match pQ r x (some q)with |some (.v a)=>some (a,r)|_ =>none)=some (v,r'):=h
  show(match pQ r x (some q)with |some (.v a)=>some (a,s::r)|_ =>none)=_
  induction e:pQ r x (some q)using aF with
  |none=>rw[e]at h;cases h
  |some z=>
   rw[e]at h
   induction z using Mine.SF.casesOn with
   |v a=>cases h;rfl
   |o l=>cases h
def IF(h:Uv g e=some v):ev GP (aa GP n) (.at 0 none e) (bx b g::r)= .oK (v,bx b g::r):=by
 induction e using Mine.IE.casesOn with
 |d c=>
  induction c using Mine.Sc.casesOn with
  |m i=>
   have h:(bif i==3 then some (bv g.fl)else bif i==4 then some (nv g.ow)else bif i==5 then some (nv g.kd)else none)=some v:=h;cases e1:i==3
   ·rw[e1]at h;cases e2:i==4
    ·rw[e2]at h;cases e3:i==5
     ·rw[e3]at h;cases h
     ·rw[e3]at h;cases h;rw[show i=5 from eq_of_beq e3];rfl
    ·rw[e2]at h;cases h;rw[show i=4 from eq_of_beq e2];rfl
   ·rw[e1]at h;cases h;rw[show i=3 from eq_of_beq e1];rfl
  |_ =>cases h
 |_ =>cases h
section
variable {P:Type}{ff:P}{tr:P->Prop}{kQ:Nat->List AV->Nat->(AV->Nat->P)->P}{n:Nat}{g:GX}(L:LG ff tr kQ n g)
include L
def lU{A:Type}{o:Option A}{k:A->P}{G:Prop}(h:tr (Hf ff o k))(c:∀v,o=some v->tr (k v)->G):G:=by
 induction o using aF with
 |none=>exact absurd h L.ff
 |some v=>exact c v rfl h
def wA{G:Prop}(h:tr (N3 ff v k))(c:∀b,v=bv b->tr (k b)->G):G:=by
 induction v using Mine.AV.casesOn with
 |s x=>induction x using Mine.Sc.casesOn with
  |u b=>exact c b rfl h
  |_ =>exact absurd h L.ff
 |_ =>exact absurd h L.ff
omit L
theorem OE.no{A:Type}{M:Nat}{res:aD (A×List SV)}{Q1:A->Nat->List SV->P}{G:Prop}(h:OE tr g M res Q1)(c:∀{v m r},tr (Q1 v m r)->G):G:=by
 obtain⟨_,_,B⟩:=h;exact c B
theorem OE.i{A B:Type}{M:Nat}{res:aD (A×List SV)}{Q1:A->Nat->List SV->P}{k:A×List SV->aD (B×List SV)}{Q:B->Nat->List SV->P}(h:OE tr g M res Q1)(c:∀{b v m r},BX (m+M) b->tr (Q1 v m r)->OE tr g M (k (v,bx b g::r)) Q):OE tr g M (res.i k) Q:=by
 obtain⟨C,e,D⟩:=h;exact e▸c C D
theorem Aj(h:SK x=some w):x= .oK (.h w,[]):=by
 rcases x with⟨_ |⟨s |_⟩|_,_ |_⟩|_ |_ <;>cases h
 rfl
def OE.dI(h:OE tr g M (bu GP (aa GP n) [e] ah) Q):OE tr g M (ev GP (aa GP n) e ah) λv=>Q [v]:=by
 obtain⟨B,A,C⟩:=h;have A:(ev GP (aa GP n) e ah).i (λb=>.oK ([b.1],b.2))=_ :=A
 induction e3:ev GP (aa GP n) e ah using Mine.bf with
 |bG=>rw[e3]at A;cases A
 |aA=>rw[e3]at A;cases A
 |oK q=>rw[e3]at A;obtain⟨v,ah⟩:=q;cases A;exact .mk B rfl C
include L
def wI(e):∀m r Q,tr (wE ff kQ n g e m r Q)->∀M b,BX (m+M) b->OE tr g M (ev GP (aa GP n) e (bx b g::r)) Q:=by
 refine @IE.rec (λe=>∀m r Q,tr (wE ff kQ n g e m r Q)->∀M b,BX (m+M) b->OE tr g M (ev GP (aa GP n) e (bx b g::r)) Q) (λB=>(∀m r Q,tr (wEs ff kQ n g B m r Q)->∀M b,BX (m+M) b->OE tr g M (bu GP (aa GP n) B (bx b g::r)) Q)/\∀d m r Q,tr (CJ ff kQ n g d B m r Q)->∀M b,BX (m+M) b->OE tr g M (bO GP (aa GP n) d B (bx b g::r)) Q) ?_ ?_ ?_ ?_ ?_ ?_ ?_ ?_ ?_ ?_ ?_ ?_ ?_ ?_ ?_ e
 ·exact λc m r Q h M b A=>.mk A rfl h
 ·exact λi m r Q h=>absurd h L.ff
 ·intro x p m r Q h M b A
  induction x using dU with
  |zero=>exact absurd h L.ff
  |succ x=>exact lU L h λv e h=>.mk A (congrArg aD.d (La e)) h
 ·intro x p e C m r Q h M b A
  induction x using dU with
  |succ x=>exact absurd h L.ff
  |zero=>induction p using aF with
   |some q=>exact absurd h L.ff
   |none=>exact lU L h λv e h=>.mk A (IF e) h
 ·exact λx p m r Q h=>absurd h L.ff
 ·exact λx p m r Q h=>absurd h L.ff
 ·exact λo B C m r Q h M b A=>(C.1 m r _ h M b A).i λA h=>lU L h λw e h=>.mk A (congrArg (λo=>(aD.d o).i _) e) h
 ·intro a H B G C m r Q h M b A
  induction H using cF with
  |nil=>exact absurd h L.ff
  |cons o H=>induction H using cF with
   |cons _ _ =>exact absurd h L.ff
   |nil=>
    induction B using cF with
    |nil=>exact absurd h L.ff
    |cons e B=>induction B using cF with
     |cons _ _ =>exact absurd h L.ff
     |nil=>exact(G m r _ h M b A).i λA h=>(OE.dI (C.1 _ _ _ h M _ A)).i λA h=>lU L h λw e h=>.mk A (congrArg (λo=>(aD.d o).i _) e) h
 ·exact λB C m r Q h M b A=>C.2 true m r Q h M b A
 ·exact λB C m r Q h M b A=>C.2 false m r Q h M b A
 ·intro t a j R G Y m r Q h M b A
  refine(R m r _ h M b A).i λA h=>wA L h λc e h=>?_
  subst e
  induction c using aR
  ·exact Y _ _ Q h M _ A
  ·exact G _ _ Q h M _ A
 ·exact λU u V k B N z z z m r Q h=>absurd h L.ff
 ·intro f D B C m r Q h M b A;have E:=C.1 m r _ h M b A
  induction f using Mine.CK.casesOn with
  |fn f=>
   induction D using cF with
   |nil=>exact OE.i (k:=λb=>(lF GP (aa GP n) (.fn f) [] b.1 b.2).i λr=>(aD.d r.1.q).i λw=>.oK (w,r.2)) E λ{z F z z} A h=>lU L h λw e h=>.mk A (by show((aa GP n f (F.map .h)).i _).i _=_;rw[Aj e];rfl) h
   |cons x D=>induction D using cF with
    |cons _ _ =>cases x<;>exact E.no λh=>absurd h L.ff
    |nil=>induction x using dU with
     |succ x=>exact E.no λh=>absurd h L.ff
     |zero=>exact OE.i (k:=λb=>(lF GP (aa GP n) (.fn f) [0] b.1 b.2).i λr=>(aD.d r.1.q).i λw=>.oK (w,r.2)) E λ{W F z z} A h=>by obtain⟨Z,w,y,O,S,X⟩:=L.kQ f _ _ _ h M _ A;exact .mk O (by show((aa GP n f (bx W g::F.map .h)).i _).i _=_;rw[S];rfl) X
  |_ =>exact E.no λh=>absurd h L.ff
 ·exact⟨λm r Q h M b A=>.mk A rfl h,λd m r Q h M b A=>.mk A rfl h⟩
 ·intro e B C I;refine⟨λm r Q h M b A=>(C m r _ h M b A).i λA h=>(I.1 _ _ _ h M _ A).i λA h=>.mk A rfl h,λd m r Q h M b A=>(C m r _ h M b A).i λA h=>wA L h λc e h=>?_⟩;subst e
  induction c using aR<;>induction d using aR
  ·exact I.2 false _ _ Q h M _ A
  ·exact .mk A rfl h
  ·exact .mk A rfl h
  ·exact I.2 true _ _ Q h M _ A
end
noncomputable def PA:IE->Bool
 |.op _ _ =>true
 |_ =>false
section
variable {P:Type}(ff:P)(kQ:Nat->List AV->Nat->(AV->Nat->P)->P)(n:Nat)(g:GX)
noncomputable def G9(x:Nat)(v:SV)(m:Nat)(r:List SV)(N:Nat->List SV->P):P:=match x with
 |0=>ff
 |x+1=>bif x.blt r.length then N m (r.set x v)else ff
mutual
noncomputable def wS:IS->Nat->List SV->(AV->Nat->P)->(Nat->List SV->P)->P
 |.h x own e,m,r,_,N=>bif !own || PA e then wE ff kQ n g e m r λv m r=>G9 ff x (bif own then qp v else .h v) m r N else ff
 |.d t b c,m,r,R,N=>wE ff kQ n g t m r λv m r=>N3 ff v λd=>bif d then wSs b m r R N else wSs c m r R N
 |.C own e,m,r,R,_ =>bif own then ff else wE ff kQ n g e m r λv m z=>R v m
 |.I x p e,m,r,_,N=>(match x,p,e with
  |x+1,none,.d c=>Hf ff (eY r x none) λl=>bif l.length.blt 10000 then N m (iN r x none (l++[.s c]))else ff
  |_,_,_ =>ff)
 |_,_,_,_,_ =>ff
noncomputable def wSs:List IS->Nat->List SV->(AV->Nat->P)->(Nat->List SV->P)->P
 |[],m,r,_,N=>N m r
 |s::l,m,r,R,N=>wS s m r R λm r=>wSs l m r R N
end
end
inductive OS{P:Type}(tr:P->Prop)(g:GX)(M:Nat)(res:aD (Fl×List SV))(R:AV->Nat->P)(N:Nat->List SV->P):Prop
 |C {b:mK} {w:AV} {m:Nat} {r:List SV} (hb:BX (m+M) b) (h:res= .oK (.C (.h w),bx b g::r)) (ht:tr (R w m))
 |nx {b:mK} {m:Nat} {r:List SV} (hb:BX (m+M) b) (h:res= .oK (.a,bx b g::r)) (ht:tr (N m r))
section
variable {P:Type}{ff:P}{tr:P->Prop}{kQ:Nat->List AV->Nat->(AV->Nat->P)->P}{n:Nat}{g:GX}(L:LG ff tr kQ n g)
include L
def BR{G:Prop}(h:tr (bif c then p else ff))(k:c=true->tr p->G):G:=by
 induction c using aR
 ·exact absurd h L.ff
 ·exact k rfl h
def Dy{G:Prop}(h:tr (G9 ff x v m r N))(k:∀A,x=A+1->A<r.length->tr (N m (r.set A v))->G):G:=by
 induction x using dU with
 |zero=>exact absurd h L.ff
 |succ x=>exact BR L h λe h=>k x rfl (Nat.blt_eq.mp e) h
omit L
theorem lO(h:x<r.length):aV (s::r) (x+1) v= .oK (s::r.set x v):=if_pos (Nat.succ_lt_succ h)
def OE.a{k:α×List SV->aD (Fl×List SV)}(h:OE tr g M res Q1)(c:∀{b v m r},BX (m+M) b->tr (Q1 v m r)->OS tr g M (k (v,bx b g::r)) R N):OS tr g M (res.i k) R N:=by
 obtain⟨A,e,B⟩:=h;exact e▸c A B
include L
omit L
def MS{P:Type}(ff:P)(tr:P->Prop)(kQ:Nat->List AV->Nat->(AV->Nat->P)->P)(n:Nat)(g:GX)(s:IS):Prop:=∀m r R N,tr (wS ff kQ n g s m r R N)->∀M b,BX (m+M) b->OS tr g M (eG GP (aa GP n) s (bx b g::r)) R N
include L
def MS.no(h:∀m r R N,wS ff kQ n g s m r R N=ff):MS ff tr kQ n g s:=λm r R N A=>absurd (h m r R N▸A) L.ff
def JB(s):∀m r R N,tr (wS ff kQ n g s m r R N)->∀M b,BX (m+M) b->OS tr g M (eG GP (aa GP n) s (bx b g::r)) R N:=by
 refine @IS.rec (MS ff tr kQ n g) (λl=>∀m r R N,tr (wSs ff kQ n g l m r R N)->∀M b,BX (m+M) b->OS tr g M (aG GP (aa GP n) l (bx b g::r)) R N) ?_ ?_ ?_ ?_ ?_ ?_ ?_ ?_ ?_ ?_ ?_ ?_ ?_ ?_ ?_ ?_ ?_ ?_ ?_ ?_ s
 ·intro x B e m r R N h M b A;refine BR L h λc h=>OE.a (Q1:=λv m r=>G9 ff x v m r N) (res:=H0 GP (aa GP n) B e (bx b g::r)) (k:=λb=>(aV b.2 x b.1).i λI=>.oK (.a,I)) ?_ λA h=>Dy L h λX W S h=>.nx A (W▸congrArg (aD.i · _) (lO S)) h
  induction B using aR with
  |false=>exact(wI L e m r _ h M b A).i λA h=>.mk A rfl h
  |true=>induction e using Mine.IE.casesOn with
   |op o O=>exact(wI L (.op o O) m r _ h M b A).i λA h=>.mk A rfl h
   |_ =>cases c
 ·exact λz z=>.no L λz z z z=>rfl
 ·exact λz z z=>.no L λz z z z=>rfl
 ·exact λz z z z=>.no L λz z z z=>rfl
 ·exact λz z z z z=>.no L λz z z z=>rfl
 ·exact λz z z=>.no L λz z z z=>rfl
 ·exact λz z z z=>.no L λz z z z=>rfl
 ·intro x p e m r R N h M b A
  induction x using dU with
  |zero=>exact absurd h L.ff
  |succ x=>induction p using aF with
   |some q=>exact absurd h L.ff
   |none=>induction e using Mine.IE.casesOn with
    |d c=>exact lU L h λl e h=>BR L h λG h=>.nx A (by
     have U:eY (bx b g::r) (x+1) none=some l:=e
     show(aD.d (eY (bx b g::r) (x+1) none)).i (λz=>(aD.d (eY (bx b g::r) (x+1) none)).i _)=_
     rw[U]
     exact if_pos (Nat.blt_eq.mp G)) h
    |_ =>exact absurd h L.ff
 ·exact λz=>.no L λz z z z=>rfl
 ·exact λt Y c H Q m r R N h M b A=>(wI L t m r _ h M b A).a λA h=>wA L h λd e h=>by
   subst e
   induction d using aR
   ·exact Q _ _ R N h M _ A
   ·exact H _ _ R N h M _ A
 ·exact λz z z z z z=>.no L λz z z z=>rfl
 ·exact λz z z=>.no L λz z z z=>rfl
 ·intro B e m r R N h M b A
  induction B using aR
  ·obtain⟨D,C,E⟩:=wI L e m r _ h M b A;exact .C D (by show((ev GP (aa GP n) e (bx b g::r)).i _).i _=_;rw[C];rfl) E
  ·exact absurd h L.ff
 ·exact λz=>.no L λz z z z=>rfl
 ·exact λz=>.no L λz z z z=>rfl
 ·exact λz z=>.no L λz z z z=>rfl
 ·exact λm r R N h=>absurd h L.ff
 ·exact λz=>.no L λz z z z=>rfl
 ·exact λm r R N h M b A=>.nx A rfl h
 ·intro s l F V m r R N h M b A;rcases F m r R _ h M b A with⟨D,C,E⟩|⟨D,C,E⟩
  ·exact .C D (congrArg (aD.i · _) C) E
  ·exact(show aG GP (aa GP n) (s::l) (bx b g::r)=aG GP (aa GP n) l _ from congrArg (aD.i · _) C)▸V _ _ R N E M _ D
end
def zd{B:Nat->List AV->Nat->(AV->Nat->P)->P}(L:LG D A B n g)(h:A (wSs D B n g l m r R N))(C:BX (m+M) b):OS A g M (aG GP (aa GP n) l (bx b g::r)) R N:=JB L (.d (.d (.u true)) l []) m r R N h M b C
inductive CR(M:Nat)(g:GX)(R:AV->Prop)(res:aD (SV×List SV)):Prop
 |mk (b':mK) (w:AV) (hb:BX M b') (hw:R w) (e:res= .oK (.h w,[bx b' g]))
def GS(n f:Nat)(vs:List AV)(K:Nat)(g:GX)(R:AV->Prop):Prop:=∀M b,BX (K+M) b->CR M g R (aa GP n f (bx b g::vs.map .h))
def BX.le(h:BX m b)(k:M<=m):BX M b:=⟨h.g,h.s,h.s',h.c,Int.le_trans (Int.add_le_add_left (Int.ofNat_le.mpr k) _) h.c'⟩
def GS.of{C:Nat->List AV->Nat->(AV->Nat->P)->P}(L:LG A B C n g){R:AV->P}(H:GP.fns f=some (fd f))(E:((vs.length+1).ble (fd f).2.1&&(fd f).2.1.ble (vs.length+1+(fd f).2.2.1.length))=true)(h1:(fd f).2.2.2.2=1)(G:∀b,env0 f (bx b g::vs.map .h)=bx b g::r)(h:B (wSs A C n g (fd f).1 K r (λw z=>R w) λz z=>A)):GS (n+1) f vs K g λw=>B (R w):=by
 intro M b D
 have F:((bx b g::vs.map SV.h).length.ble (fd f).2.1&&(fd f).2.1.ble ((bx b g::vs.map SV.h).length+(fd f).2.2.1.length))=true:=by
  rw[List.length_cons,cz];exact E
 rcases(by
  exact zd L h D:OS B g M (aG GP (aa GP n) (fd f).1 (bx b g::r)) (λw z=>R w) λz z=>A)with⟨fC,e1,Qo⟩|⟨fC,e1,Qo⟩
 ·exact⟨_,_,fC.le (gY _ _),Qo,aO (fl:=.C _) H F (by rw[G];exact e1) (by rw[h1];rfl)⟩
 ·exact absurd Qo L.ff
def iw(a:Int)(h:0<m):f9 (λr=>r<m) (λr=>a.fmod (Int.ofNat m)=Int.ofNat r):=by
 have A:(0:Int)<Int.ofNat m:=Int.ofNat_lt.mpr h;obtain⟨r,B⟩:=Int.eq_ofNat_of_zero_le (Int.fmod_nonneg_of_pos a A);exact⟨r,Int.ofNat_lt.mp (B▸Int.fmod_lt_of_pos a A),B⟩
def Ev.R(h:Ev n ah e (.m a))(h':Ev n ah B (nv m))(A:0<m):Ev n ah (.op .R [e,B]) (.m (a.fmod (Int.ofNat m))):=.y h h' (if_pos (Int.ofNat_lt.mpr A))
def Ev.pow(h:Ev n ah e (.m a))(h1:1<a)(A:a<2^64)(B:(1<Int.ofNat k/\Int.ofNat k<=100)):∃w,Ev n ah (.op .pow [e,.d (.m (Int.ofNat k))]) (.m w):=⟨_,.y h .d (if_pos ⟨B,h1,A⟩)⟩
def Ev.Lp(h:Ev n ah e (.m a))(h1:a.natAbs<2^40)(A:k.natAbs<2^40):Ev n ah (.op .a [.d (.m k),e]) (.m (k*a)):=.y .d h (if_pos ⟨A,h1⟩)
inductive TK(M m:Nat)(g:GX)(res:aD (SV×List SV)):Prop
 |mk (b':mK) (r:Nat) (hb:BX M b') (hr:r<m) (e:res= .oK (.h (nv r),[bx b' g]))
def bU(k:Nat)(g:GX){m M:Nat}(A:0<m)(q:m<2^40){b:mK}(h:BX (1+M) b):TK M m g (aa GP (k+1) 55 [bx b g,.h (nv m)]):=by
 obtain⟨W,C,D,E,I⟩:=h;have B:Ev k [bx b g,.h (nv m),.a,.a] (.I (.at 0 none (.i 0)) [.gt] [.i 0]) (bv (decide (0<b.g))):=.I (u:=.m b.g) rfl .d rfl
 by_cases R:0<b.g
 ·obtain⟨r,L,G⟩:=iw b.g A;have N:Ev k [bx b g,.h (nv m),.a,.a] (.op .R [.at 0 none (.i 0),.r 1]) (.m (b.g.fmod (Int.ofNat m))):=.R rfl (.H rfl) A;rw[G]at N;rw[decide_eq_true R]at B;refine⟨⟨b.g.fdiv (Int.ofNat m),b.s,b.c⟩,r,⟨?_,C,D,E,?_⟩,L,aO (fl:=.C (.h (nv r))) rfl rfl (.z B rfl (.u (.h N rfl) (.u (.set (k:=0) (l:=[.m b.g,.m b.s,.m b.c,bv g.fl,nv g.ow,nv g.kd]) (.y (v:=.m b.g) (v':=nv m) rfl (.H rfl) (if_pos ⟨Int.ofNat_lt.mpr A,Int.ofNat_lt.mpr q⟩):Ev k [bx b g,.h (nv m),.h (nv r),.a] (.op .fdiv [.at 0 none (.i 0),.r 1]) (.m (b.g.fdiv (Int.ofNat m)))) rfl .d (Nat.zero_lt_succ _):Ex k [bx b g,.h (nv m),.h (nv r),.a] (.set 0 none (.i 0) (.op .fdiv [.at 0 none (.i 0),.r 1])) [bx ⟨b.g.fdiv (Int.ofNat m),b.s,b.c⟩ g,.h (nv m),.h (nv r),.a]) (.C (.H rfl))))) rfl⟩
  ·show 0<=b.g.fdiv (m:Int);rw[Int.fdiv_eq_ediv_of_nonneg _ (Int.natCast_nonneg m)];exact Int.ediv_nonneg W (Int.natCast_nonneg m)
  ·show b.c+(M:Int)<=_;exact Int.le_trans (Int.add_le_add_left (Int.ofNat_le.mpr (gY _ _)) _) I
 ·rw[decide_eq_false R]at B;refine bB λt X=>?_;obtain⟨Q,y,F⟩:=US E I;have U:(b.c+1).natAbs<2^40:=R5 Q (Int.lt_of_le_of_lt F (by decide));obtain⟨Y,e4⟩:=Ev.pow (n:=k) (ah:=[bx ⟨b.g,b.s,b.c+1⟩ g,.h (nv m),.a,.a]) (e:=.p [.p [.at 0 none (.i 1),.op .a [.i 40169,.at 0 none (.i 2)]],.i 7]) (a:=b.s+40169*(b.c+1)+7) (k:=5) (.y (.y (v:=.m b.s) rfl (.Lp (a:=b.c+1) rfl U (by decide)) rfl) .d rfl) (UR C Q) (UQ D F) (by decide);obtain⟨O,o,Z⟩:=iw Y (m:=2147483647) (by decide);have S:=Ev.R (m:=2147483647) e4 (.d) (by decide);rw[Z]at S;obtain⟨z,w⟩:=Ev.pow (n:=k) (ah:=[bx ⟨b.g,b.s,b.c+1⟩ g,.h (nv m),.a,.h (nv O)]) (e:=.p [.r 3,.op .a [.i 93001,.at 0 none (.i 2)]]) (a:=Int.ofNat O+93001*(b.c+1)) (k:=3) (.y (.H rfl) (.Lp (a:=b.c+1) rfl U (by decide)) rfl) (UP (Int.natCast_nonneg _) y) (UO (Int.ofNat_lt.mpr o) F) (by decide);obtain⟨H,d,j⟩:=iw z (m:=2147483587) (by decide);have P:=Ev.R (m:=2147483587) w (.d) (by decide);rw[j]at P;obtain⟨r,L,G⟩:=iw ((Int.ofNat H).fdiv 16) A;have V:Ev k [bx ⟨b.g,b.s,b.c+1⟩ g,.h (nv m),.a,.h (nv H)] (.op .R [.op .fdiv [.r 3,.i 16],.r 1]) (.m (((Int.ofNat H).fdiv 16).fmod (Int.ofNat m))):=.R (.y (.H rfl) .d rfl) (.H rfl) A;rw[G]at V;refine X (⟨⟨b.g,b.s,b.c+1⟩,r,⟨W,C,D,by show 0<=b.c+1;exact Int.le_trans E (Int.le_add_of_nonneg_right (by decide)),by show b.c+1+(M:Int)<=_;exact Int.le_trans (Int.le_of_eq (Int.add_assoc _ _ _)) I⟩,L,aO (fl:=.C (.h (nv r))) rfl rfl (.u (.z B .j) (.u (.set (k:=2) (l:=[.m b.g,.m b.s,.m b.c,bv g.fl,nv g.ow,nv g.kd]) (rfl:Ev k [bx b g,.h (nv m),.a,.a] (.p [.at 0 none (.i 2),.i 1]) (.m (b.c+1))) rfl .d (Nat.lt_of_sub_eq_succ rfl):Ex k [bx b g,.h (nv m),.a,.a] (bk 55 1) [bx ⟨b.g,b.s,b.c+1⟩ g,.h (nv m),.a,.a]) (.u (.h S rfl) (.u (.h P rfl) (.C V))))) rfl⟩)
def jW(k:Nat)(g:GX){l:List AV}(F:l≠[])(E:l.length<2^40){M:Nat}{b:mK}(h:BX (1+M) b):CR M g (· ∈l) (aa GP (k+2) 56 [bx b g,.h (.aj l)]):=by
 refine bB λH C=>?_;obtain⟨A,r,D,G,e⟩:=bU k g (List.length_pos_iff.mpr F) E h;have B:=ij G;refine C (⟨A,_,D,fk B,aO (fl:=.C (.h _)) (env1:=[bx A g,.h (.aj l)]) rfl rfl ?_ rfl⟩)
 show(((ev GP (aa GP (k+1)) _ [bx b g,.h (.aj l)]).i _).i _).i _=_
 rw[(by
  show(bu GP (aa GP (k+1)) _ [bx b g,.h (.aj l)]).i _=_
  rw[(by
   show((ev GP (aa GP (k+1)) (.k 55 [0] [.n [.r 1]]) [bx b g,.h (.aj l)]).i _).i _=_
   rw[(by
    show((aa GP (k+1) 55 [bx b g,.h (nv l.length)]).i _).i _=_
    rw[e];rfl:ev GP (aa GP (k+1)) (.k 55 [0] [.n [.r 1]]) [bx b g,.h (.aj l)]= .oK (nv r,[bx A g,.h (.aj l)]))];rfl:bu GP (aa GP (k+1)) [.r 1,.k 55 [0] [.n [.r 1]]] [bx b g,.h (.aj l)]= .oK ([.aj l,nv r],[bx A g,.h (.aj l)]))]
  show(aD.d (hZ GP .Q [.aj l,nv r])).i _=_
  rw[show hZ GP .Q [.aj l,nv r]=_ from qC B];rfl:ev GP (aa GP (k+1)) (.x [.r 1,.k 55 [0] [.n [.r 1]]]) [bx b g,.h (.aj l)]= .oK (l[r],[bx A g,.h (.aj l)]))];rfl
abbrev Tab:=Nat->List AV->Option (Nat×List AV)
noncomputable def BL(t:Tab)(f:Nat)(vs:List AV)(m:Nat)(Q:AV->Nat->Bool):Bool:=match t f vs with
 |some q=>q.1.ble m&&q.2.all λw=>Q w (m-q.1)
 |none=>false
def gi(n:Nat)(g:GX)(t:Tab):Prop:=∀f A q,t f A=some q->GS n f A q.1 g (· ∈q.2)
def gi.a(h:gi n g t):LG false (· =true) (BL t) n g:=⟨fO,λf A m Q e M b G=>by
 unfold BL at e
 cases e1:t f A with
 |none=>rw[e1]at e;cases e
 |some q=>
  rw[e1]at e;refine bB λL B=>?_;refine d3 e λI E=>?_;obtain⟨C,w,F,H,D⟩:=h f A q e1 (m-q.1+M) b (by rw[<-Nat.add_assoc,Nat.add_sub_cancel' (iD I)];exact G);refine B ?_
  exact⟨C,w,m-q.1,F,D,List.all_eq_true.mp E w H⟩⟩
def T0:Tab:=λf A=>bif f==55 then(match A with
 |[.s (.m i)]=>(match i with
  |.ofNat m=>bif m==0 || !m.blt 1000 then none else some (1,(List.range m).map nv)
  |.negSucc _ =>none)
 |_ =>none)
 else bif f==56 then(match A with
  |[.n k l]=>bif k==1&&(!l.isEmpty&&l.length.blt 1000)then some (1,l)else none
  |_ =>none)else none
def Gb(k)(g):gi (k+3) g T0:=by
 intro f D q h;unfold T0 at h;cases e:f==55
 ·rw[e]at h;cases e2:f==56
  ·rw[e2]at h;cases h
  ·rw[e2]at h;cases eq_of_beq e2
   cases D with
   |nil=>cases h
   |cons a l=>cases l with
    |cons _ _ =>cases a<;>cases h
    |nil=>cases a with
     |s c=>cases h
     |n j l=>
      have h:(bif j==1&&(!l.isEmpty&&l.length.blt 1000)then some (1,l)else none)=some q:=h;cases e3:j==1&&(!l.isEmpty&&l.length.blt 1000)
      ·rw[e3]at h;cases h
      ·rw[e3]at h;cases h;refine d3 e3 λC A=>?_;refine d3 A λA H=>?_;cases eq_of_beq C;intro M b B;refine jW (k+1) g (λz=>?_) (Nat.lt_trans (Nat.blt_eq.mp H) (by decide)) B;rw[z]at A;cases A
 ·rw[e]at h;cases eq_of_beq e
  cases D with
  |nil=>cases h
  |cons a l=>cases a with
   |n j O=>cases h
   |s c=>cases c with
    |m i=>cases l with
     |cons _ _ =>cases h
     |nil=>cases i with
      |negSucc _ =>cases h
      |ofNat m=>
       have h:(bif m==0 || !m.blt 1000 then none else some (1,(List.range m).map nv))=some q:=h
       cases e3:m==0 || !m.blt 1000
       ·rw[e3]at h;cases h;obtain⟨C,A⟩:=Bool.or_eq_false_iff.mp e3;intro M b B;refine bB λN E=>?_
        obtain⟨F,r,I,L,G⟩:=bU (k+2) g (Nat.pos_of_ne_zero (ne_of_beq_false C)) (Nat.lt_trans (Nat.blt_eq.mp (by
         cases z:m.blt 1000
         ·rw[z]at A;cases A
         ·rfl:m.blt 1000=true)) (by decide)) B
        exact E (⟨F,nv r,I,List.mem_map.mpr ⟨r,List.mem_range.mpr L,rfl⟩,G⟩)
       ·rw[e3]at h;cases h
    |_ =>cases l<;>cases h
abbrev Ent:=List AV×Nat×List AV
def ext(t:Tab)(B:Nat)(E:List Ent):Tab:=λf A=>bif f==B then(E.find? λe=>lq (aq 1) e.1 A).map (·.2)else t f A
def K_(f:Nat)(vs:List AV):List SV:=(env0 f (.a::vs.map .h)).tail
def uz(t:Tab)(n:Nat)(g:GX)(f:Nat)(e:Ent):Bool:=((e.1.length+1).ble (fd f).2.1&&(fd f).2.1.ble (e.1.length+1+(fd f).2.2.1.length))&&wSs false (BL t) n g (fd f).1 e.2.1 (K_ f e.1) (λw z=>e.2.2.any λu=>aq 5 u w) λz z=>false
def gi.ext(h:gi n g t)(h':gi (n+1) g t)(S:GP.fns f=some (fd f))(h1:(fd f).2.2.2.2=1)(W:∀e∈E,uz t n g f e=true):gi (n+1) g (ext t f E):=by
 intro D B q A;unfold Mq.ext at A;cases e:D==f
 ·rw[e]at A;exact h' D B q A
 ·rw[e]at A;cases eq_of_beq e;refine pK A λx C O=>?_;have a:=Ax (g9 1) (List.find?_some (p:=λe:Ent=>lq (aq 1) e.1 B) C);subst a;cases O;refine d3 (W x (List.mem_of_find?_eq_some C)) λQ H=>?_;intro M b N;refine bB λX F=>?_;obtain⟨G,w,L,U,I⟩:=GS.of h.a (R:=λw=>x.2.2.any λu=>aq 5 u w) S Q h1 (λz=>rfl) H M b N;refine lu U λu P V=>?_;exact F (⟨G,w,L,g9 5 _ _ V▸P,I⟩)
noncomputable def fW:List GX:=[⟨true,0,0⟩,⟨false,1,0⟩,⟨false,0,0⟩,⟨false,0,1⟩]
abbrev Q4:=Tx×AV×AV×AV
def r4(q:Q4):AV:=.tup [.j q.1,q.2.1,q.2.2.1,q.2.2.2]
def RN:List Ent:=[0,1,2,3,4].map λi=>([nv i],1,uZ i)
def N5:Tab:=ext T0 58 RN
def wC(k:Nat)(g:GX):gi (k+4) g N5:=(Gb k g).ext (Gb (k+1) g) rfl rfl (by
 exact ax (by kernel_rfl:(RN.map (uz T0 (k+3) g 58))=RN.map tt))
def FH:List Q4:=dP.map λv=>(c5,v,.r,.r)
def RK:List Ent:=[([],2,FH.map r4)]
def Rt:Tab:=ext N5 61 RK
def Ca(k:Nat)(g:GX):gi (k+5) g Rt:=(wC k g).ext (wC (k+1) g) rfl rfl (by
 exact ax (by kernel_rfl:(RK.map (uz N5 (k+4) g 61))=RK.map tt))
def Ow(g:GX)(o:Tx):List Q4:=(List.range (1+g.ow)).flatMap λA=>(List.range (3-g.ow+A)).map λi=>(o,nv A,nv i,.r)
def RJ(g:GX):List Ent:=[gD,gC].map λo=>([.j o],2,(Ow g o).map r4)
def Rq(g:GX):Tab:=ext Rt 62 (RJ g)
def B_(k:Nat):∀g∈fW,gi (k+6) g (Rq g):=λg m=>(Ca k g).ext (Ca (k+1) g) rfl rfl (by
 exact ax (ax (by kernel_rfl:(fW.map λg=>(RJ g).map (uz Rt (k+5) g 62))=fW.map λg=>(RJ g).map tt) g m))
def Hj(o:Tx)(k:Nat):List Q4:=(uZ k).map λv=>(o,v,.r,.r)
def br(o:Tx):Q4:=(o,.r,.r,.r)
def putL(g:GX)(b:Bool):List Q4:=FH++(Ow g gD++(Hj ip 0++(Hj i6 1++([br sM,br JL]++bif b then [br fX]else []))))
noncomputable def FZ:List Nat:=[0,1,2,3,4,5]
def RI(g:GX):List Ent:=FZ.map λd=>([nv d],3,(putL g ((0:Nat).blt d)).map r4)
def Rp(g:GX):Tab:=ext (Rq g) 63 (RI g)
def B9(k:Nat):∀g∈fW,gi (k+7) g (Rp g):=λg m=>(B_ k g m).ext (B_ (k+1) g m) rfl rfl (by
 exact ax (ax (by kernel_rfl:(fW.map λg=>(RI g).map (uz (Rq g) (k+6) g 63))=fW.map λg=>(RI g).map tt) g m))
def JG:Tx:=pI
def JF:Tx:=qQ
def GD:Tx:=sX
def JJ:Tx:=m6
def JI:Tx:=vm
def GK(g:GX):List Q4:=Ow g gC++bif g.fl then []else Hj wM 0++(Hj wN 1++Hj JG 2)
def RH(g:GX):List Ent:=[([],3,(GK g).map r4)]
def Ro(g:GX):Tab:=ext (Rp g) 64 (RH g)
def B8(k:Nat):∀g∈fW,gi (k+8) g (Ro g):=λg m=>(B9 k g m).ext (B9 (k+1) g m) rfl rfl (by
 exact ax (ax (by kernel_rfl:(fW.map λg=>(RH g).map (uz (Rp g) (k+7) g 64))=fW.map λg=>(RH g).map tt) g m))
def RG:List Ent:=[.r,nv 1,nv 2].map λa=>([a],1,[r4 (fR,a,.r,.r),r4 (jd,a,.r,.r)])
def Rn(g:GX):Tab:=ext (Ro g) 65 RG
def B7(k:Nat):∀g∈fW,gi (k+9) g (Rn g):=λg m=>(B8 k g m).ext (B8 (k+1) g m) rfl rfl (by
 exact ax (ax (by kernel_rfl:(fW.map λg=>RG.map (uz (Ro g) (k+8) g 65))=fW.map λg=>RG.map tt) g m))
def FX:List Q4:=(uZ 2).flatMap λx=>(uZ 4).map λy=>(JJ,x,y,.r)
def MH:List Q4:=(uZ 3).map λx=>(vd,x,nv 1,.r)
def Ov(b:Bool):List Q4:=(uZ 3).flatMap λx=>[.j xZ,.j n_,.j xY].map λy=>(bq,x,nv 0,.tup [y,bif b then .tup [.j x6,nv 0]else .r])
def O2:List Q4:=xT.map λq=>(q.1,q.2.1,q.2.2,.r)
def Ag(g:GX)(d:Nat):List Q4:=[br bc]++(Hj JF 4++(Hj GD 3++(FX++(putL g ((0:Nat).blt d)++((bif g.kd==1 then(bT,nv 0,.r,.r)::MH else [])++((bif (0:Nat).blt d then [br fR,br jd,br JI,br dQ,br bM]++(GK g++(O2++Ov (g.kd==1)))else [])++bif (1:Nat).blt d then [br dK]else []))))))
def RF(g:GX):List Ent:=FZ.map λd=>([nv d],4,(Ag g d).map r4)
def Jx(g:GX):Tab:=ext (Rn g) 66 (RF g)
def B6(k:Nat):∀g∈fW,gi (k+10) g (Jx g):=λg m=>(B7 k g m).ext (B7 (k+1) g m) rfl rfl (by
 exact ax (ax (by kernel_rfl:(fW.map λg=>(RF g).map (uz (Rn g) (k+9) g 66))=fW.map λg=>(RF g).map tt) g m))
noncomputable def rM(g:GX):CX:=bif g.kd==1 then⟨[3],2⟩else bif g.ow==1 then⟨[2,3],0⟩else⟨[3],0⟩
def LC(l:List Q4)(q:Q4):Bool:=l.any λp=>p.1==q.1&&(aq 1 p.2.1 q.2.1&&(aq 1 p.2.2.1 q.2.2.1&&aq 4 p.2.2.2 q.2.2.2))
def tJ(h:LC l q=true):q∈l:=by
 refine lu h λp m h=>?_;refine d3 h λB h=>?_;refine d3 h λA h=>?_;exact d3 h λC D=>((Prod.ext (eq_of_beq B) (Prod.ext (g9 1 _ _ A) (Prod.ext (g9 1 _ _ C) (g9 4 _ _ D))):p=q)▸m)
def gf(g:GX)(q:Q4):Bool:= !du q.1&&(LC BY q&&m9 (rM g) false ⟨q.1,q.2.1,q.2.2.1,q.2.2.2,0⟩)
inductive Good(g:GX)(q:Q4):Prop
 |n (h:gf g q=true)
 |j (h:du q.1=true) (a:q.2.1= .r\/∃k,q.2.1=nv k) (b:q.2.2=(.r,.r))
def iU(d:Nat)(o:Tx):Nat:=d-(cY o).1+(cY o).2
inductive d6(g:GX):Nat->List Q4->List Nat->Nat->Prop
 |j {d:Nat}:d6 g d [] [] d
 |u {d:Nat} {q:Q4} {ag:List Q4} {hs:List Nat} {d':Nat} (hg:Good g q) (hn:(cY q.1).1<=d) (hr:∀k,du q.1=true->q.2.1=nv k->(d::(hs++[d']))[k]? =some (iU d q.1)) (t:d6 g (iU d q.1) ag hs d'):d6 g d (q::ag) (d::hs) d'
def Io(t:Tab)(f:Nat)(vs:List AV)(m:Nat)(Q:AV->Nat->Prop):Prop:=match t f vs with
 |some q=>bif q.1.ble m then ∀w∈q.2,Q w (m-q.1)else False
 |none=>False
def gi.b(h:gi n g t):LG False (λp=>p) (Io t) n g:=⟨id,λf A m Q e M b C=>by
 unfold Io at e
 induction e1:t f A using aF with
 |none=>rw[e1]at e;exact e.elim
 |some q=>
  rw[e1]at e;have e:(bif q.1.ble m then ∀w∈q.2,Q w (m-q.1)else False):=e;cases e2:q.1.ble m
  ·rw[e2]at e;exact e.elim
  ·rw[e2]at e;refine bB λH B=>?_;obtain⟨E,w,D,F,G⟩:=h f A q e1 (m-q.1+M) b (by rw[<-Nat.add_assoc,Nat.add_sub_cancel' (iD e2)];exact C);refine B ?_
   exact⟨E,w,m-q.1,D,G,e w F⟩⟩
noncomputable def rL:List Nat:=[0,1,2,3,4]
def jm(k:Nat):Q4:=(bc,nv k,.r,.r)
def N1(a:AV):List AV:=[r4 (fR,a,.r,.r),r4 (jd,a,.r,.r)]
def pP(w:Nat)(o:Bool)(g:GX)(d:Nat)(v:AV)(R:List AV->Prop):Prop:=match w with
 |0=>R [v,r4 (br dQ)]
 |1=>∀x∈(GK g).map r4,R [v,r4 (br fX),x,r4 (br dQ)]
 |2=>∀x∈FH.map r4,∀y∈N1 .r,R (bif o then [x,r4 (jm 1),y]else [x,y])
 |3=>∀y∈N1 (nv 2),R [v,y,r4 (br bc)]
 |4=>bif o then ∀y∈N1 (nv 1),R [v,y]else R [r4 (jm 1)]
 |5=>R [r4 (jm 3),v,r4 (br dQ)]
 |6=>R (bif o then [v,r4 (jm 1),r4 (br bM)]else [r4 (jm 1),r4 (br bc)])
 |_ =>bif o then ∀x∈(putL g true).map r4,R [v,x,r4 (br dK),r4 (br dK)]else R [v,r4 (br fX),r4 (br dK)]
def Ut:List IS:=(fd 67).1.drop 2
def Aa(k:Nat)(v:AV)(R:List AV->Prop):([0,1,2,3,4,5,6,7].map λw=>bb.map λo=>fW.map λg=>rL.map λd=>wSs False (Io (Jx g)) (k+10) g Ut 5 [.h (nv d),.h (nv w),.h v,.h (bv o)] (λx z=>match x with |.n 1 l=>R l |_ =>False) λz z=>False)=[0,1,2,3,4,5,6,7].map λw=>bb.map λo=>fW.map λg=>rL.map λd=>pP w o g d v R:=by kernel_rfl
section
variable {g:GX}{d e d':Nat}{ag:List Q4}{hs:List Nat}
def gf.j{q:Q4}(h:gf g q=true):du q.1=false:=by
 have:=(jo.mp h).1;cases e:du q.1
 ·rfl
 ·rw[e]at this;cases this
def d6.N(h:gf g q=true)(B:(cY q.1).1<=d)(C:iU d q.1=e)(t:d6 g e ag hs d'):d6 g d (q::ag) (d::hs) d':=.u (.n h) B (λk A=>absurd (gf.j h |>.symm.trans A) fO) (C▸t)
def d6.J(h:du o=true)(A:(cY o).1<=d)(B:iU d o=e)(t:d6 g e ag hs d'):d6 g d (br o::ag) (d::hs) d':=.u (.j h (.inl rfl) rfl) A (λk y z=>by cases z) (B▸t)
def d6.K(h:du o=true)(C:(cY o).1<=d)(A:iU d o=e)(B:(d::(hs++[d']))[k]? =some e)(t:d6 g e ag hs d'):d6 g d ((o,nv k,.r,.r)::ag) (d::hs) d':=.u (.j h (.inr ⟨k,rfl⟩) rfl) C (λD y z=>by cases z;rw[A];exact B) (A▸t)
end
def QV:List Tx:=[dQ,fX,dK,bM]
def xj:∀g∈fW,∀o∈QV,gf g (br o)=true:=by
 exact λg m o A=>yf (by kernel_rfl:(fW.map λg=>QV.map λo=>gf g (br o))=fW.map λz=>QV.map λz=>true) g m o A
def OU:∀g∈fW,∀b∈bb,∀q∈putL g b,(gf g q&&(cY q.1==(0,1) || (b&&cY q.1==(1,2))))=true:=by
 exact λg m b A=>ax (ax (ax (by kernel_rfl:(fW.map λg=>bb.map λb=>(putL g b).map λq=>gf g q&&(cY q.1==(0,1) || (b&&cY q.1==(1,2))))=fW.map λg=>bb.map λb=>(putL g b).map tt) g m) b A)
def Ve:∀g∈fW,∀q∈GK g,(gf g q&&cY q.1==(1,0))=true:=by
 exact λg m=>ax (ax (by kernel_rfl:(fW.map λg=>(GK g).map λq=>gf g q&&cY q.1==(1,0))=fW.map λg=>(GK g).map tt) g m)
def WK:∀g∈fW,∀q∈FH,(gf g q&&cY q.1==(0,1))=true:=by
 exact λg m=>ax (ax (by kernel_rfl:(fW.map λg=>FH.map λq=>gf g q&&cY q.1==(0,1))=fW.map λg=>FH.map tt) g m)
def t4(g:GX)(d:Nat)(q:Q4):Bool:=(cY q.1).1.ble d&&(gf g q || (du q.1&&lq (aq 1) [q.2.1,q.2.2.1,q.2.2.2] [.r,.r,.r]))
def O9:∀g∈fW,∀d∈rL,∀q∈Ag g d,t4 g d q=true:=by
 exact λg m d A=>ax (ax (ax (by kernel_rfl:(fW.map λg=>rL.map λd=>(Ag g d).map (t4 g d))=fW.map λg=>rL.map λd=>(Ag g d).map tt) g m) d A)
def d6.G(h:t4 g d q=true)(t:d6 g (iU d q.1) ag hs B):d6 g d (q::ag) (d::hs) B:=by
 refine d3 h λA h2=>?_;rcases Bool.or_eq_true_iff.mp h2 with h2 |h2
 ·exact .N h2 (iD A) rfl t
 ·refine d3 h2 λC D=>?_;obtain⟨o,a,b,c⟩:=q
  cases(Ax (g9 1) D)
  exact .J C (iD A) rfl t
section
variable {g:GX}(m:g∈fW){d d':Nat}{ag:List Q4}{hs:List Nat}
include m
def d6.f(D:b=true->0<d)(E:q∈putL g b)(t:d6 g (d+1) ag hs d'):d6 g d (q::ag) (d::hs) d':=by
 refine d3 (OU g m b (bN b) q E) λA h2=>?_;rcases Bool.or_eq_true_iff.mp h2 with h2 |h2
 ·exact .N A (by rw[eq_of_beq h2];exact da _) (by unfold iU;rw[eq_of_beq h2];rfl) t
 ·refine d3 h2 λF C=>?_;have B:=D F;exact .N A (by rw[eq_of_beq C];exact B) (by unfold iU;rw[eq_of_beq C];show d-1+2=d+1;exact congrArg Nat.succ (Nat.succ_pred_eq_of_pos B)) t
def d6.st(B:q∈GK g)(t:d6 g d ag hs d'):d6 g (d+1) (q::ag) ((d+1)::hs) d':=by
 exact d3 (Ve g m q B) λC A=>(.N C (by rw[eq_of_beq A];exact eU (da _)) (by unfold iU;rw[eq_of_beq A];rfl) t)
def d6.c(B:q∈FH)(t:d6 g (d+1) ag hs d'):d6 g d (q::ag) (d::hs) d':=by
 exact d3 (WK g m q B) λC A=>(.N C (by rw[eq_of_beq A];exact da _) (by unfold iU;rw[eq_of_beq A];rfl) t)
def d6.P(t:d6 g d ag hs d'):d6 g (d+1) (br dQ::ag) ((d+1)::hs) d':=.N (xj g m _ (.head _)) (eU (da d)) (by kernel_rfl) t
def d6.dup(t:d6 g (d+2) ag hs d'):d6 g (d+1) (br fX::ag) ((d+1)::hs) d':=.N (xj g m _ (.tail _ (.head _))) (eU (da d)) (by kernel_rfl) t
def d6.swap(t:d6 g (d+2) ag hs d'):d6 g (d+2) (br dK::ag) ((d+2)::hs) d':=.N (xj g m _ (.tail _ (.tail _ (.head _)))) (eU (eU (da d))) (by kernel_rfl) t
def d6.leave(t:d6 g d ag hs d'):d6 g (d+1) (br bM::ag) ((d+1)::hs) d':=.N (xj g m _ (.tail _ (.tail _ (.tail _ (.head _))))) (eU (da d)) (by kernel_rfl) t
end
def d6.n(t:d6 g d ag hs A):d6 g d (br bc::ag) (d::hs) A:=.J (by kernel_rfl) (da d) (by kernel_rfl) t
def d6.a(B:(d::(hs++[A]))[k]? =some d)(t:d6 g d ag hs A):d6 g d (jm k::ag) (d::hs) A:=.K (by kernel_rfl) (da d) (by kernel_rfl) B t
def rS(h:y∈N1 a):∃o∈[fR,jd],y=r4 (o,a,.r,.r):=by
 rcases iZ.mp h with rfl |h
 ·exact⟨_,.head _,rfl⟩
 ·exact⟨_,.tail _ (.head _),dN.mp h⟩
def Ju:∀o∈[fR,jd],du o=true/\cY o=(1,0):=by
 have:([fR,jd].map λo=>(du o,cY o))=[fR,jd].map λz=>(true,1,0):=by kernel_rfl
 exact λo m=>⟨congrArg Prod.fst (ax this o m),congrArg Prod.snd (ax this o m)⟩
def d6.l(m:o∈[fR,jd])(t:d6 g d ag hs A):d6 g (d+1) (br o::ag) ((d+1)::hs) A:=.J (Ju o m).1 (by rw[(Ju o m).2];exact eU (da d)) (by unfold iU;rw[(Ju o m).2];rfl) t
def d6.h(m:o∈[fR,jd])(B:((d+1)::(hs++[A]))[k]? =some d)(t:d6 g d ag hs A):d6 g (d+1) ((o,nv k,.r,.r)::ag) ((d+1)::hs) A:=.K (Ju o m).1 (by rw[(Ju o m).2];exact eU (da d)) (by unfold iU;rw[(Ju o m).2];rfl) B t
inductive lK(g:GX)(d:Nat):AV->Prop
 |mk (ag:List Q4) {hs:List Nat} {d':Nat} (s:d6 g d ag hs d') (ne:ag≠[]) (len:ag.length.ble 4=true):lK g d (.aj (ag.map r4))
def Lh(m:g∈fW)(L:q∈putL g ((0:Nat).blt d)):∀w∈[0,1,2,3,4,5,6,7],∀o∈bb,pP w o g d (r4 q) (λl=>lK g d (.aj l)):=by
 have G:∀{H F I},d6 g (d+1) H F I->d6 g d (q::H) (d::F) I:=λt=>.f m (λz=>Nat.blt_eq.mp z) L t;have A:∀{q:Q4} {l:List Q4},q::l≠[]:=List.cons_ne_nil _ _;refine cu.mpr ⟨λo u=>.mk [q,br dQ] (G (.P m .j)) A rfl,cu.mpr ⟨λo u x C=>?_,cu.mpr ⟨λo u x C y E=>?_,cu.mpr ⟨λo u y E=>?_,cu.mpr ⟨λo u=>?_,cu.mpr ⟨λo u=>.mk [jm 3,q,br dQ] (.a rfl (G (.P m .j))) A rfl,cu.mpr ⟨λo u=>?_,cu.mpr ⟨λo u=>?_,gy _⟩⟩⟩⟩⟩⟩⟩⟩
 ·refine bZ C λs ms D=>?_;obtain rfl:=D;exact .mk [q,br fX,s,br dQ] (G (.dup m (.st m ms (.P m .j)))) A rfl
 ·refine bZ C λs ms D=>?_;obtain rfl:=D;obtain⟨j,B,rfl⟩:=rS E
  induction o using aR
  ·exact .mk [s,br j] (.c m ms (.l B .j)) A rfl
  ·exact .mk [s,jm 1,br j] (.c m ms (.a rfl (.l B .j))) A rfl
 ·obtain⟨j,B,rfl⟩:=rS E;exact .mk [q,(j,nv 2,.r,.r),br bc] (G (.h B rfl (.n .j))) A rfl
 ·induction o using aR
  ·exact .mk [jm 1] (.a rfl .j) A rfl
  ·intro y E;obtain⟨j,B,rfl⟩:=rS E;exact .mk [q,(j,nv 1,.r,.r)] (G (.h B rfl .j)) A rfl
 ·induction o using aR
  ·exact .mk [jm 1,br bc] (.a rfl (.n .j)) A rfl
  ·exact .mk [q,jm 1,br bM] (G (.a rfl (.leave m .j))) A rfl
 ·induction o using aR
  ·exact .mk [q,br fX,br dK] (G (.dup m (.swap m .j))) A rfl
  ·intro x C;refine bZ C λs ms D=>?_;obtain rfl:=D;exact .mk [q,s,br dK,br dK] (G (.f m (b:=true) (λu=>Nat.succ_pos d) ms (.swap m (.swap m .j)))) A rfl
def fU(h:mW n (bx b g::r) es vs)(A:aa GP n f (bx b g::vs.map .h)= .oK (.h w,[bx b' g])):ev GP (aa GP n) (.K (.fn f) [0] es) (bx b g::r)= .oK (w,bx b' g::r):=by
 show(bu GP (aa GP n) es (bx b g::r)).i _=_
 rw[show bu GP (aa GP n) es _=_ from h]
 show((aa GP n f (bx b g::vs.map .h)).i _).i _=_
 rw[A];rfl
def GG:∀g∈fW,∀d∈rL,Jx g 63 [nv d]=some (3,(putL g ((0:Nat).blt d)).map r4):=by
 exact λg m d A=>yf (by kernel_rfl:(fW.map λg=>rL.map λd=>Jx g 63 [nv d])=fW.map λg=>rL.map λd=>some (3,(putL g ((0:Nat).blt d)).map r4)) g m d A
def Hb(k:Nat):(fW.map λg=>rL.map λd=>[8,9,10].map λw=>wSs false (BL (Jx g)) (k+10) g (fd 67).1 8 [.h (nv d),.h (nv w),.a,.a] (λx z=>(Ag g d).any λq=>aq 6 (.aj [r4 q]) x) λz z=>false)=fW.map λz=>rL.map λz=>[8,9,10].map λz=>true:=by kernel_rfl
def M5(n:Nat)(b:SV)(d:AV):([0,1,2,3,4,5,6,7].map λw=>eG GP (aa GP n) (bk 67 0) [b,.h d,.h (nv w),.a,.a])=[0,1,2,3,4,5,6,7].map λw=>.oK (.a,[b,.h d,.h (nv w),.a,.a]):=by kernel_rfl
noncomputable def Sa:List Nat:=[0,1,2,3,4,5,6,7]
def nP(h1:ev GP (aa GP n) e ah= .oK (v,bx b1 g::r))(C:ev GP (aa GP n) B (bx b1 g::r)= .oK (w,bx A g::r))(E:y.blt r.length=true)(D:x.blt r.length=true):eG GP (aa GP n) (.n true [x+1,y+1] [(false,e),(false,B)]) ah= .oK (.a,bx A g::(r.set y (.h w)).set x (.h v)):=by
 show(((ev GP (aa GP n) e ah).i _).i _).i _=_
 rw[h1]
 show((((ev GP (aa GP n) B (bx b1 g::r)).i _).i _).i _).i _=_
 rw[C]
 show((aV (bx A g::r) (y+1) (.h w)).i _).i _=_
 rw[lO (Nat.blt_eq.mp E)]
 show((aV (bx A g::r.set y (.h w)) (x+1) (.h v)).i _).i _=_
 rw[lO (by rw[eI];exact Nat.blt_eq.mp D)];rfl
set_option tactic.hygienic true in
def z_(k:Nat)(m:g∈fW)(B:d∈rL):∀w∈List.range 11,GS (k+11) 67 [nv d,nv w] 9 g (lK g d):=by
 intro w t M b L;have T:=B6 k g m;rcases Nat.lt_or_ge w 8 with h8 |h8
 ·refine bB λo C=>?_
  have H:w∈Sa:=by
   exact(by decide:∀w,w<8->w∈Sa) w h8
  obtain⟨F,v,Z,W,R⟩:=T 63 [nv d] _ (GG g m d B) (1+(5+M)) b (L.le (UL rfl));obtain⟨D,r,Q,a,Y⟩:=bU (k+9) g (m:=2) (by decide) (by decide) Z;refine bZ W λq E p=>?_;obtain rfl:=p
  have V:∀{I:Fl} {N:List SV},aG GP (aa GP (k+10)) Ut (bx D g::[.h (nv d),.h (nv w),.h (r4 q),.h (bv (r==1))])= .oK (I,N)->aG GP (aa GP (k+10)) (fd 67).1 [bx b g,.h (nv d),.h (nv w),.a,.a]= .oK (I,N):=λe=>by
   show(eG GP (aa GP (k+10)) (bk 67 0) _).i _=_
   rw[(ax (M5 (k+10) (bx b g) (nv d)) w H)]
   show(eG GP (aa GP (k+10)) (.n true [2+1,3+1] _) _).i _=_
   rw[(nP (x:=2) (y:=3) (fU (n:=k+10) (b:=b) (r:=[.h (nv d),.h (nv w),.a,.a]) (es:=[.r 1]) (.u (.H rfl) .j) R) (by
    show(ev GP (aa GP (k+10)) (.k 55 [0] [.i 2]) [bx F g,.h (nv d),.h (nv w),.a,.a]).i _=_
    rw[(fU (n:=k+10) (b:=F) (r:=[.h (nv d),.h (nv w),.a,.a]) (es:=[.i 2]) (vs:=[nv 2]) (.u .d .j) Y)]
    obtain rfl |rfl:=Mine.Gj a<;>rfl:ev GP (aa GP (k+10)) (.q (.k 55 [0] [.i 2]) (.i 1)) [bx F g,.h (nv d),.h (nv w),.a,.a]= .oK (bv (r==1),[bx D g,.h (nv d),.h (nv w),.a,.a])) rfl rfl)]
   exact e
  refine C ?_;rcases(zd T.b (M:=M) (b:=D) ((ax (ax (ax (ax (Aa k (r4 q) (λl=>lK g d (.aj l))) w H) (r==1) (bN _)) g m) d B:_=pP w (r==1) g d (r4 q) (λl=>lK g d (.aj l)))▸(Lh m E w H (r==1) (bN _))) Q)with⟨P,O,A⟩|⟨P,O,A⟩
  ·rename_i S x m3 h;refine⟨S,x,P.le (gY _ _),?_,aO (fl:=.C _) rfl rfl (V O) rfl⟩
   induction x using Mine.AV.casesOn with
   |s c=>exact A.elim
   |n j l=>
    match j,A with
    |1,A=>exact A
  ·exact A.elim
 ·refine bB λo C=>?_
  obtain⟨U,x,X,z,e⟩:=GS.of T.a (f:=67) (vs:=[nv d,nv w]) rfl rfl rfl (λJ=>rfl) (ax (yf (Hb k) g m d B) w (by
   exact(by decide:∀w,w<11->8<=w->w∈[8,9,10]) w (List.mem_range.mp t) h8:w∈[8,9,10])) M b (L.le (zK rfl))
  refine lu z λq E u=>?_;refine C (⟨U,x,X,?_,e⟩);rw[<-g9 6 _ _ u];exact .mk [q] (.G (O9 g m d B q E) .j) (List.cons_ne_nil _ _) rfl
def w8(g:GX)(d:Nat):List (List Q4):=(bif g.fl then []else [br bc]::bif d==0 then FX.map λq=>[q]else [])++bif (0:Nat).blt d then [[br bM]]else(bif g.kd==1 then((bT,nv 0,.r,.r)::MH).map λq=>[q,br bM]else [])++FH.map λq=>[q,br bM]
def LF(ag:List Q4):AV:=.aj (ag.map r4)
def AB(k:Nat):(fW.map λg=>rL.map λd=>wSs false (BL (Jx g)) (k+10) g (fd 70).1 4 [.h (nv d),.a] (λx z=>(w8 g d).any λq=>aq 6 (LF q) x) λz z=>false)=fW.map λz=>rL.map λz=>true:=by kernel_rfl
noncomputable def yI(g:GX)(d:Nat):List Q4->Bool
 |[]=>false
 |q::l=>t4 g d q&&(!du q.1 || aq 1 q.2.1 .r)&&match l with
  |[]=>(gS 5).any λy=>y==q.1
  |q'::l'=>yI g (iU d q.1) (q'::l')
def yH:yI g d (q::l)=(t4 g d q&&(!du q.1 || aq 1 q.2.1 .r)&&match l with
 |[]=>(gS 5).any λy=>y==q.1
 |q'::A=>yI g (iU d q.1) (q'::A)):=by cases l<;>rfl
def LM:∀g∈fW,∀d∈rL,∀l∈w8 g d,(yI g d l&&l.length.ble 2)=true:=by
 exact λg m d A=>ax (ax (ax (by kernel_rfl:(fW.map λg=>rL.map λd=>(w8 g d).map λl=>yI g d l&&l.length.ble 2)=fW.map λg=>rL.map λd=>(w8 g d).map tt) g m) d A)
structure LastOk(g:GX)(d:Nat)(ag:List Q4)(hs:List Nat)(d':Nat):Prop where
 s:d6 g d ag hs d'
 ne:ag≠[]
 nn:∀q∈ag,∀k,du q.1=true->q.2.1=nv k->False
 e:∀q,ag.getLast? =some q->(gS 5).any (λy=>y==q.1)=true
def EI(g):∀(l:List Q4) (d:Nat),yI g d l=true->∃hs A,LastOk g d l hs A:=by
 intro l
 induction l with
 |nil=>intro d h;cases h
 |cons q l I=>
  intro d h;rw[yH]at h;refine d3 h λh B=>?_;refine d3 h λE C=>?_
  have D:∀k,du q.1=true->q.2.1=nv k->False:=λk H F=>by
   rw[H,F]at C;cases C
  induction l using cF with
  |nil=>exact⟨[d],_,.G E .j,List.cons_ne_nil _ _,cu.mpr ⟨D,gy _⟩,λL e=>by cases e;exact B⟩
  |cons L l=>
   obtain⟨hs,A,o⟩:=I _ B;exact⟨d::hs,A,.G E o.s,List.cons_ne_nil _ _,cu.mpr ⟨D,o.nn⟩,λz e=>o.e z (by rw[<-e];rfl)⟩
def DT(k)(m:g∈fW)(B:d∈rL):GS (k+11) 70 [nv d] 4 g λw=> ∃ag hs A,w=LF ag/\LastOk g d ag hs A/\ag.length<=2:=by
 intro M b F;refine bB λO C=>?_;obtain⟨D,x,E,I,e⟩:=GS.of (B6 k g m).a (f:=70) (vs:=[nv d]) rfl rfl rfl (λz=>rfl) (yf (AB k) g m d B) M b F;refine lu I λq G H=>?_;refine d3 (LM g m d B q G) λN L=>?_;obtain⟨hs,A,o⟩:=EI g q d N;exact C (⟨D,x,E,⟨q,hs,A,(g9 6 _ _ H).symm,o,iD L⟩,e⟩)
def rh:List Tx:=(bq::m8).filter λo=> !(o==fm)
def Ik(k:Nat):∀o∈rh,aa GP (k+1) 68 [.h (.j o)]= .oK (.h (.m (Int.ofNat (cY o).2-Int.ofNat (cY o).1)),[]):=by
 exact ax (by kernel_rfl:(rh.map λo=>aa GP (k+1) 68 [.h (.j o)])=rh.map λo=>.oK (.h (.m (Int.ofNat (cY o).2-Int.ofNat (cY o).1)),[]))
def Good.op(h:Good g q):q.1∈rh:=by
 cases h with
 |n h=>
  refine d3 (jo.mp h).2 λD C=>?_;rcases gM.mp (tJ D)with h |h
  ·refine bZ h λz A e=>?_;subst e;exact ic.mpr ⟨.tail _ (oj z A),by rw[((Bool.or_eq_false_iff.mp (rk ((iP A).symm.trans C))).1)];rfl⟩
  ·obtain⟨z,A,h⟩:=List.mem_flatMap.mp h;refine bZ h λu E e=>?_;subst e;rw[show(z.1,z.2.1,z.2.2,u).1=bq from g5 A];exact .head _
 |j h=>
  refine lu h λy B e=>?_;rw[<-eq_of_beq e];exact ic.mpr ⟨.tail _ (iI _ B),ax (by kernel_rfl:((gS 4).map λo=> !(o==fm))=(gS 4).map λv=>true) y B⟩
def xJ(B:ah[x]? =some (.aj l))(h:Ev n ah e v)(A:l.length<=100):Ex n ah (.I x none e) (ah.set x (.aj (l++[v]))):=.I B h (eV A (by decide))
def Q_:List IS:=match bk 69 0 with
 |.l _ _ _ _ b=>b
 |_ =>[]
def yh(k)(P)(s:d6 g d ag hs C):∀(L H:List AV) (j:SV),L.length+ag.length<=100->H.length+ag.length<=100->∃j1,forLoop (aN [4] false) (λah=>aG GP (aa GP (k+1)) Q_ ah) (ag.map r4) [.aj L,.aj H,P,.h (nv d),j]= .oK (.a,[.aj (L++ag.map r4),.aj (H++hs.map nv),P,.h (nv C),j1]):=by
 induction s with
 |j=>exact λL H j y y=>⟨j,by rw[List.map_nil,List.map_nil,List.append_nil,List.append_nil];rfl⟩
 | @u d q ag hs C hg hn hr t ih=>
  intro L H j A B;rw[List.length_cons]at A B;obtain⟨j1,e⟩:=ih (L++[r4 q]) (H++[nv d]) (.h (r4 q)) (by rw[dc,qa];exact zE A Fd) (by rw[dc,qa];exact zE B Fd);refine⟨j1,?_⟩
  have b:aG GP (aa GP (k+1)) Q_ [.aj L,.aj H,P,.h (nv d),.h (r4 q)]= .oK (.a,[.aj (L++[r4 q]),.aj (H++[nv d]),P,.h (nv (iU d q.1)),.h (r4 q)]):=Xs.u (xJ rfl (.H rfl) (az (eN _ _) A):Ex (k+1) [.aj L,.aj H,P,.h (nv d),.h (r4 q)] (.I 0 none (.r 4)) _) (.u (xJ rfl (.H rfl) (az (eN _ _) B):Ex (k+1) [.aj (L++[r4 q]),.aj H,P,.h (nv d),.h (r4 q)] (.I 1 none (.r 3)) _) (.u (.h (.y (.H rfl) (.K (.u (.y (.H rfl) .d rfl) .j) (Ik k q.1 hg.op)) (congrArg (λz=>some (AV.m z)) (by
   show Int.ofNat d+(Int.ofNat (cY q.1).2-Int.ofNat (cY q.1).1)=Int.ofNat (d-(cY q.1).1+(cY q.1).2)
   exact UT hn))) rfl:Ex (k+1) [.aj (L++[r4 q]),.aj (H++[nv d]),P,.h (nv d),.h (r4 q)] (.h 3 false (.p [.r 3,.h 68 [.x [.r 4,.i 0]]])) [.aj (L++[r4 q]),.aj (H++[nv d]),P,.h (nv (iU d q.1)),.h (r4 q)]) .j))
  show(aG GP (aa GP (k+1)) Q_ [.aj L,.aj H,P,.h (nv d),.h (r4 q)]).i _=_
  rw[b];rw[iC,iC]at e;exact e
def w9(k)(s:d6 g d ag hs C)(L H)(A:L.length+ag.length<=100)(B:H.length+ag.length<=100):aa GP (k+2) 69 [.aj L,.aj H,.h (.aj (ag.map r4)),.h (nv d)]= .oK (.h (nv C),[.aj (L++ag.map r4),.aj (H++hs.map nv)]):=by
 obtain⟨D,e⟩:=yh k (.h (.aj (ag.map r4))) s L H .a A B;exact aO rfl rfl (.u (.a (.u (.H rfl) .j) rfl e) (.C (.H rfl))) rfl
def d6.at(s:d6 g d ag hs C):hs.length=ag.length/\∀(i:Nat) q,ag[i]? =some q->Good g q/\Fc (λe=>hs[i]? =some e) (λe=>(cY q.1).1<=e) (λe=>(hs++[C])[i+1]? =some (iU e q.1)) (λe=>∀k,du q.1=true->q.2.1=nv k->(hs++[C])[i+k]? =some (iU e q.1)):=by
 induction s with
 |j=>exact⟨rfl,λi q h=>by cases h⟩
 | @u d q ag hs C hg hn hr t ih=>
  refine⟨congrArg (· +1) ih.1,λi z D=>?_⟩
  induction i using dU with
  |zero=>
   cases D;refine⟨hg,d,rfl,hn,?_,λk B A=>by rw[Nat.zero_add];exact hr k B A⟩;cases t<;>rfl
  |succ i=>
   refine bB λM E=>?_;obtain⟨I,e,H,F,L,G⟩:=ih.2 i z D;refine E ?_
   exact⟨I,e,H,F,L,λk B A=>by
    rw[Nat.succ_add]
    exact G k B A⟩
def d6.head(s:d6 g d ag hs A):(hs++[A])[(0:Nat)]? =some d:=by cases s<;>rfl
structure Lay(g:GX)(ag:List Q4)(hs:List Nat):Prop where
 E:hs.length=ag.length
 n:ag.length<=6
 ne:ag≠[]
 h0:hs[(0:Nat)]? =some 0
 pt:∀(i:Nat) q,ag[i]? =some q->Good g q/\Fc (λe=>hs[i]? =some e) (λe=>(cY q.1).1<=e) (λe=>(i+1<ag.length->hs[i+1]? =some (iU e q.1))) (λe=>∀k,du q.1=true->q.2.1=nv k->hs[i+k]? =some (iU e q.1))
 last:∀q,ag.getLast? =some q->(gS 5).any (λy=>y==q.1)=true
def rW(e:A[(0:Nat)]? =some d){j v:Nat}(h:(h1++[d])[j]? =some v):(h1++A)[j]? =some v:=by
 rcases Nat.lt_or_ge j h1.length with c |c
 ·rw[lI c]at h|-;exact h
 ·rw[pw c]at h|-;have:j-h1.length=0:=Nat.lt_one_iff.mp (mE.mp h).1;rw[this]at h|-;exact e.trans h
def Lay.of{h1 C:List Nat}(s:d6 g 0 r1 h1 P)(l:LastOk g P M C S)(Q:r1.length<=4)(R:M.length<=2):Lay g (r1++M) (h1++C):=by
 have B:=s.at;have E:=l.s.at
 have N:C[(0:Nat)]? =some P:=by
  have:=l.s.head;rw[lI (List.length_pos_iff.mpr (λz=>l.ne (List.length_eq_zero_iff.mp (E.1.symm.trans (congrArg List.length z))):C≠[]))]at this;exact this
 refine⟨by rw[dc,dc,B.1,E.1],by rw[dc];exact Nat.add_le_add Q R,λz=>l.ne (List.append_eq_nil_iff.mp z).2,rW N s.head,λi q A=>?_,λq A=>l.e q ?_⟩
 ·rcases Nat.lt_or_ge i r1.length with c |c
  ·rw[lI c]at A;obtain⟨L,e,F,H,D,O⟩:=B.2 i q A;exact⟨L,e,by rw[lI (B.1▸c)];exact F,H,λy=>rW N D,λk I G=>rW N (O k I G)⟩
  ·rw[pw c]at A;obtain⟨L,e,F,H,D,O⟩:=E.2 _ q A;refine⟨L,e,by rw[pw (B.1▸c),B.1];exact F,H,λz=>?_,λk I G=>(l.nn q (fk A) k I G).elim⟩;rw[dc]at z;rw[lI (by rw[E.1];exact eV (Nat.le_of_eq (Nat.succ_sub c).symm) (Nat.sub_lt_left_of_lt_add (Nat.le_succ_of_le c) z):i-r1.length+1<C.length)]at D;rw[pw (by rw[B.1];exact Nat.le_succ_of_le c),B.1,show i+1-r1.length=i-r1.length+1 from Nat.succ_sub c];exact D
 ·rw[List.getLast?_append]at A
  induction e:M.getLast? using aF with
  |none=>exact absurd (List.getLast?_eq_none_iff.mp e) l.ne
  |some z=>rw[e]at A;exact A
def j7(h:n<=100):bz .range [nv n]=some ((List.range n).map nv):=by
 show(if(Int.ofNat n).natAbs<=10000 then some (d9 (Int.ofNat n).toNat 0)else none)=_
 rw[if_pos (show(Int.ofNat n).natAbs<=10000 from az h (by decide)),show(0:Int)=Int.ofNat 0 from rfl,qj,List.range_eq_range'];rfl
def Ei(k:Nat)(h:Lay g ag hs)(C:ag[s]? =some q)(P:du q.1=true)(A:hs[s]? =some e)(R:(cY q.1).1<=e):GS (k+4) 71 [.aj (ag.map r4),.aj (hs.map nv),nv s] 1 g λw=> ∃t,t<hs.length/\w=nv t/\hs[t]? =some (iU e q.1):=by
 intro M b U;refine bB λv D=>?_;have H:hs.length<=100:=h.E▸az h.n (by decide)
 have B:q.1∈gS 4:=by
  exact lu P λy X d=>(eq_of_beq d▸X)
 have s0:Ex (k+3) [bx b g,.h (.aj (ag.map r4)),.h (.aj (hs.map nv)),.h (nv s),.a,.a] (bk 71 0) [bx b g,.h (.aj (ag.map r4)),.h (.aj (hs.map nv)),.h (nv s),.h (nv (iU e q.1)),.a]:=.h (.y (.Q (.H rfl) (.H rfl) (w:=nv e) (by rw[di,A];rfl)) (.g (.I (.y (.Q (.H rfl) (.H rfl) (w:=r4 q) (by rw[di,C];rfl)) .d (w:=.j q.1) rfl) (.y .d .d (w:=.aj ([fR,jd].map .j)) rfl) (jZ [fR,jd] q.1)) rfl:Ev (k+3) [bx b g,.h (.aj (ag.map r4)),.h (.aj (hs.map nv)),.h (nv s),.a,.a] (.op .d [.w (.x [.x [.r 1,.r 3],.i 0]) (.l [.t wV,.t yW])]) (.m (if [fR,jd].any (λy=>y==q.1)then 1 else 0))) (congrArg (λz=>some (AV.m z)) ((by
  intro o B e A
  exact(by
   refine cu.mpr ⟨λe J=>?_,cu.mpr ⟨λe J=>?_,cu.mpr ⟨λe J=>?_,cu.mpr ⟨λe J=>?_,gy _⟩⟩⟩⟩
   ·exact Int.sub_zero _
   ·simp only[Int.ofNat_eq_natCast,if_true]at*;exact(Int.ofNat_sub ‹_›).symm
   ·simp only[Int.ofNat_eq_natCast,if_true]at*;exact(Int.ofNat_sub ‹_›).symm
   ·rw[Nat.sub_add_cancel ‹_›];exact Int.sub_zero _:∀p∈([((0,0),false),((1,0),true),((1,0),true),((1,1),false)]:List ((Nat×Nat)×Bool)),∀e,p.1.1<=e->Int.ofNat e-(if p.2 then 1 else 0)=Int.ofNat (e-p.1.1+p.1.2)) _ ((by kernel_rfl:((gS 4).map λo=>(cY o,[fR,jd].any λy=>y==o))=[((0,0),false),((1,0),true),((1,0),true),((1,1),false)])▸List.mem_map.mpr ⟨o,B,rfl⟩) e A:∀o∈gS 4,∀e,(cY o).1<=e->Int.ofNat e-(if [fR,jd].any (λy=>y==o)then 1 else 0)=Int.ofNat (iU e o)) q.1 B e R))) rfl
 have I:=Ev.xB (n:=k+3) (j:=SV.a) (λj=>[bx b g,.h (.aj (ag.map r4)),.h (.aj (hs.map nv)),.h (nv s),.h (nv (iU e q.1)),j]) nv nv id (λi=>hs.getD i 0==iU e q.1) (l:=List.range hs.length) (elt:=.r 5) (tg:=[5]) (tup:=false) (k:=.range) (es:=[.n [.r 2]]) (cond:=[.q (.x [.r 2,.r 5]) (.r 4)]) (.u (.E (.H rfl)) .j) (by rw[cz];exact j7 H) (λJ=>rfl) λi N j=>⟨.h (nv i),rfl,.dI (.I (.Q (w:=nv (hs.getD i 0)) (.H rfl) (.H rfl) (by
  rw[di,kM,ij (List.mem_range.mp N)];rfl)) (.H rfl) (by
  show some (PyData.eqv (.int (Int.ofNat (hs.getD i 0))) (.int (Int.ofNat (iU e q.1))))=_;refine congrArg some ?_
  show(Int.ofNat (hs.getD i 0)==Int.ofNat (iU e q.1))=_
  cases z:hs.getD i 0==iU e q.1
  ·exact beq_eq_false_iff_ne.mpr λy=>absurd (Int.ofNat.inj y) (ne_of_beq_false z)
  ·rw[eq_of_beq z];exact beq_self_eq_true _)),λJ=>.H rfl⟩
 rw[List.map_id]at I
 obtain⟨t,a,f⟩:=(by
  by_cases G:iU e q.1=e
  ·exact⟨s,(mE.mp A).1,by rw[G];exact A⟩
  ·refine bB λv D=>?_
   have L:s+1<ag.length:=by
    refine Nat.lt_of_le_of_ne (mE.mp C).1 λz=>?_
    have:((gS 4).map λo=> !((gS 5).any λy=>y==o) || o==bc)=(gS 4).map λJ=>true:=by kernel_rfl
    have:=ax this q.1 B;rw[(h.last q (by rw[List.getLast?_eq_getElem?,<-z,Nat.add_sub_cancel];exact C))]at this;exact G (by rw[(eq_of_beq this:q.1=bc)];exact(by kernel_rfl:iU e bc=e))
   obtain⟨-,e',O,a2,W,-⟩:=h.pt s q C;cases A.symm.trans O;refine D ?_
   exact⟨s+1,h.E▸L,W L⟩:∃t,t<hs.length/\hs[t]? =some (iU e q.1))
 obtain⟨F,w,S,hw,Q⟩:=jW (k+1) g (l:=((List.range hs.length).filter λi=>hs.getD i 0==iU e q.1).map nv) (λz=>by
  exact absurd (ic.mpr ⟨List.mem_range.mpr a,(by rw[kM,f];exact beq_self_eq_true _:(hs.getD t 0==iU e q.1)=true)⟩) ((List.map_eq_nil_iff.mp z)▸List.not_mem_nil)) (by
  rw[cz]
  exact eV (az (List.length_filter_le _ _) (by rw[List.length_range];exact H)) (by decide)) U
 refine bZ hw λu Z m=>?_;obtain rfl:=m;refine Hv Z λV Y=>?_;refine D ?_;have E:=List.mem_range.mp V;have c:=fU (n:=k+3) (b:=b) (r:=[.h (.aj (ag.map r4)),.h (.aj (hs.map nv)),.h (nv s),.h (nv (iU e q.1)),.a]) (.u I .j) Q;refine⟨F,nv u,S,⟨u,E,rfl,?_⟩,aO (fl:=.C (.h (nv u))) (env1:=[bx F g,.h (.aj (ag.map r4)),.h (.aj (hs.map nv)),.h (nv s),.h (nv (iU e q.1)),.a]) rfl rfl (.u s0 ?_) rfl⟩
 ·rw[ij E,<-eq_of_beq Y,kM,ij E];rfl
 ·show(((ev GP (aa GP (k+3)) _ _).i _).i _).i _=_
  rw[c];rfl
def Good.le(h:Good g q):(cY q.1).2<=(cY q.1).1+1:=by
 exact iD (ax (by kernel_rfl:(rh.map λo=>(cY o).2.ble ((cY o).1+1))=rh.map tt) q.1 h.op)
def Lay.le(h:Lay g ag hs):∀(i e:Nat),hs[i]? =some e->e<=i:=by
 intro i
 induction i with
 |zero=>intro e A;cases h.h0.symm.trans A;exact fh 0
 |succ i F=>
  intro e A;have B:i+1<ag.length:=h.E▸(mE.mp A).1;obtain⟨G,H,D,E,C,-⟩:=h.pt i _ (ij (Nat.lt_of_succ_lt B));cases A.symm.trans (C B);exact zH G.le E (F H D)
inductive uX(hs:List Nat):AV->Prop
 |j:uX hs (.aj [])
 |dI (q:CT) (d:Nat) (s:q.s∈fw) (hd:q.d=Int.ofNat d) (s':(q.s==pJ)=false) (f:q.f<q.la) (la:q.la<=hs.length) (t:hs[q.t]? =some (d+1)) (c:∀p,q.f<=p->p<q.la->∀e,hs[p]? =some e->d<=e):uX hs (.aj [q.p])
def B3:∀l:List Nat,uQ (l.map nv)=some (l.map Int.ofNat):=by
 intro l
 induction l with
 |nil=>rfl
 |cons a l A=>
  show(uQ (l.map nv)).map _=_
  rw[A];rfl
def Hn(h:l≠[]):f9 (λ(w:Int)=>hZ GP .min [.aj (l.map nv)]=some (.m w)) (λ(w:Int)=>∀e∈l,w<=Int.ofNat e):=by
 refine⟨Ho (l.map Int.ofNat),?_,λe m=>?_⟩
 ·show(uQ (l.map nv)).bind _=_
  rw[B3];exact if_neg λz=>h (List.map_eq_nil_iff.mp z)
 ·refine D0 m λi A=>?_
  exact(by
   rw[kM,di,A];rfl:(l.map Int.ofNat).getD i 0=Int.ofNat e)▸((argBest_lt (λi=>(l.map Int.ofNat).getD i 0) ((l.map Int.ofNat).length-1)).2 i (by
    rw[cz]
    exact Nat.le_sub_one_of_lt (mE.mp A).1))
def zz{hs:List Nat}(h:f<la)(A:la<=hs.length):hZ GP (.f true true) [.aj (hs.map nv),nv f,nv la]=some (.aj (((hs.drop f).take (la-f)).map nv)):=by
 have c:∀x,x<=hs.length->PySem.clipAt (hs.map nv).length (Int.ofNat x)=x:=λx B=>by
  rw[cz];exact(PySem.clipAt_nat _ _).trans (Nat.min_eq_left B)
 show some (AV.aj (((hs.map nv).drop (PySem.clipAt _ (Int.ofNat f))).take (PySem.clipAt _ (Int.ofNat la)-PySem.clipAt _ (Int.ofNat f))))=_;rw[c f (az (fj h) A),c la A,List.map_take,List.map_drop]
def jJ(h:Ev n ah a u)(B:ev GP (aa GP n) c ah= .oK (v,env1))(A:hZ GP o [u,v]=some w):ev GP (aa GP n) (.op o [a,c]) ah= .oK (w,env1):=by
 show(bu GP (aa GP n) [a,c] ah).i _=_
 rw[(by
  show(ev GP (aa GP n) a ah).i _=_
  rw[show ev GP (aa GP n) a ah=_ from h]
  show((ev GP (aa GP n) c ah).i _).i _=_
  rw[B];rfl:bu GP (aa GP n) [a,c] ah= .oK ([u,v],env1))]
 show(aD.d (hZ GP o [u,v])).i _=_
 rw[A];rfl
def FN(h:ev GP (aa GP n) t ah= .oK (bv c,env1))(h1:aG GP (aa GP n) ((bif c then x else y)++bif c then []else l) env1=r)(B:c=true->∃fl en,A8 fl=false/\aG GP (aa GP n) x env1= .oK (fl,en))(C:y=[]):aG GP (aa GP n) (.d t x y::l) ah=r:=by
 subst C
 show(eG GP (aa GP n) (.d t x []) ah).i _=_
 rw[(by
  show(ev GP (aa GP n) t ah).i _=_
  rw[h];rfl:eG GP (aa GP n) (.d t x []) ah=if c then aG GP (aa GP n) x env1 else aG GP (aa GP n) [] env1)]
 induction c using aR
 ·exact h1
 ·obtain⟨fl,en,A,e⟩:=B rfl;rw[<-h1]
  show(aG GP (aa GP n) x env1).i _=aG GP (aa GP n) (x++[]) env1
  rw[List.append_nil,e];cases fl
  ·cases A
  ·cases A
  ·rfl
noncomputable def QU:List Nat->Nat->Bool:=λA i=>(0:Nat).blt (A.getD i 0)
def uB(k)(L:Lay g ag hs):GS (k+4) 72 [.aj (hs.map nv)] 5 g (uX hs):=by
 intro M b R;have I:hs.length<=100:=L.E▸az L.n (by decide);have PX:0<hs.length:=L.E▸List.length_pos_iff.mpr L.ne
 have Y:=Ev.xB (n:=k+3) (j:=SV.a) (λj=>[bx b g,.h (.aj (hs.map nv)),.a,.a,.a,.a,.a,j]) nv nv id (QU hs) (l:=List.range hs.length) (elt:=.r 7) (tg:=[7]) (tup:=false) (k:=.range) (es:=[.n [.r 1]]) (cond:=[.I (.x [.r 1,.r 7]) [.gt] [.i 0]]) (.u (.E (.H rfl)) .j) (by rw[cz];exact j7 I) (λJ=>rfl) λi mi j=>⟨.h (nv i),rfl,.dI (.I (.Q (w:=nv (hs.getD i 0)) (.H rfl) (.H rfl) (by
  rw[di,kM,ij (List.mem_range.mp mi)];rfl)) .d (congrArg some (by
  unfold QU;cases e:(0:Nat).blt (hs.getD i 0)
  ·exact decide_eq_false λc=>absurd (Nat.blt_eq.mpr (Int.ofNat_lt.mp c)) (by rw[e];exact fO)
  ·exact decide_eq_true (Int.ofNat_lt.mpr (Nat.blt_eq.mp e))))),λJ=>.H rfl⟩
 rw[List.map_id]at Y;generalize hG:(List.range hs.length).filter (QU hs)=G at Y;have s0:Ex (k+3) [bx b g,.h (.aj (hs.map nv)),.a,.a,.a,.a,.a,.a] (bk 72 0) [bx b g,.h (.aj (hs.map nv)),.h (.aj (G.map nv)),.a,.a,.a,.a,.a]:=.h Y rfl
 have mG:∀t∈G,∃d,hs[t]? =some (d+1):=λt m=>by
  rw[<-hG]at m;refine Hv m λX m2=>?_;have C:=ij (List.mem_range.mp X);have E:=Nat.blt_eq.mp (show(0:Nat).blt (hs.getD t 0)=true from m2);rw[(by rw[kM,C];rfl:hs.getD t 0=hs[t]'(List.mem_range.mp X))]at E;exact⟨hs[t]'(List.mem_range.mp X)-1,by rw[Nat.sub_add_cancel E];exact C⟩
 have XF:G.length<2^40:=by
  rw[<-hG];exact eV (az (List.length_filter_le _ _) (by rw[List.length_range];exact I)) (by decide)
 have rN:∀V,aG GP (aa GP (k+3)) [.y (.l [])] (bx V g::[.h (.aj (hs.map nv)),.h (.aj (G.map nv)),.a,.a,.a,.a,.a])= .oK (.C (.h (.aj [])),bx V g::[.h (.aj (hs.map nv)),.h (.aj (G.map nv)),.a,.a,.a,.a,.a]):=λV=>rfl
 obtain⟨B,c,N,ec,XG⟩:=(by
  induction F:g.fl using aR
  ·have C:Ev (k+3) (bx b g::[.h (.aj (hs.map nv)),.h (.aj (G.map nv)),.a,.a,.a,.a,.a]) (.at 0 none (.i 3)) (bv false):=F▸rfl
   induction G using cF with
   |nil=>
    exact⟨b,true,R.le (zK rfl),Ev.Co (.or (b:=false) (c:=true || false) C λJ=>.or (b:=true) (c:=false) (.I (.H rfl) (.op .j rfl) rfl) λz=>by cases z),λz=>by cases z⟩
   |cons t G=>
    refine bB λP0 U=>?_;obtain⟨B,r,N,P,e⟩:=bU (k+2) g (m:=2) (by decide) (by decide) (show BX (1+(4+M)) b from R.le (zL rfl));refine U (⟨B,r==0,N,?_,λJ=>List.cons_ne_nil _ _⟩);show bO GP (aa GP (k+3)) false _ _=_
    show(ev GP (aa GP (k+3)) (.at 0 none (.i 3)) _).i _=_
    rw[show ev GP (aa GP (k+3)) (.at 0 none (.i 3)) _=_ from C]
    show(ev GP (aa GP (k+3)) (.q (.r 2) (.l [])) _).i _=_
    rw[show ev GP (aa GP (k+3)) (.q (.r 2) (.l [])) _=_ from(.I (.H rfl) (.op .j rfl) (by
     show((cb ((t::G).map nv)).bind _).bind _=_
     rw[(by
      exact(λl=>by
       induction l with
       |nil=>rfl
       |cons a l ih=>
        show(cb (l.map nv)).map _=_
        rw[ih];rfl:∀l:List Nat,cb (l.map nv)=some (l.map λx=>.int (Int.ofNat x))) _:cb ((t::G).map nv)=some (((t::G)).map λx=>.int (Int.ofNat x)))]
     exact if_pos (az (Nat.min_le_right _ _) (by decide))):Ev (k+3) (bx b g::[.h (.aj (hs.map nv)),.h (.aj ((t::G).map nv)),.a,.a,.a,.a,.a]) (.q (.r 2) (.l [])) (bv false))]
    show((ev GP (aa GP (k+3)) (.k 55 [0] [.i 2]) _).i _).i _=_
    rw[(fU (n:=k+3) (b:=b) (r:=[.h (.aj (hs.map nv)),.h (.aj ((t::G).map nv)),.a,.a,.a,.a,.a]) (es:=[.i 2]) (vs:=[nv 2]) (.u .d .j) e)];obtain rfl |rfl:=Mine.Gj P<;>rfl
  ·exact⟨b,true,R.le (zK rfl),Ev.Co (.or (b:=true) (c:=false) (F▸rfl:Ev (k+3) (bx b g::[.h (.aj (hs.map nv)),.h (.aj (G.map nv)),.a,.a,.a,.a,.a]) (.at 0 none (.i 3)) (bv true)) λz=>by cases z),λz=>by cases z⟩:∃B c,BX (4+M) B/\ev GP (aa GP (k+3)) (.or [.at 0 none (.i 3),.q (.r 2) (.l []),.q (.k 55 [0] [.i 2]) (.i 0)]) (bx b g::[.h (.aj (hs.map nv)),.h (.aj (G.map nv)),.a,.a,.a,.a,.a])= .oK (bv c,bx B g::[.h (.aj (hs.map nv)),.h (.aj (G.map nv)),.a,.a,.a,.a,.a])/\(c=false->G≠[]))
 induction c using aR
 ·refine bB λP0 U=>?_;obtain⟨Q,w,j8,S,e2⟩:=jW (k+1) g (l:=G.map nv) (λz=>XG rfl (List.map_eq_nil_iff.mp z)) (by rw[cz];exact XF) (show BX (1+(3+M)) B from N.le (zL rfl));refine bZ S λt mt bS=>?_;obtain rfl:=bS;obtain⟨d,hd⟩:=mG t mt;obtain⟨W,f,u3,F,e3⟩:=bU (k+2) g PX (eV I (by decide)) (show BX (1+(2+M)) Q from j8.le (zL rfl));obtain⟨b4,r,Mv,P,e4⟩:=bU (k+2) g (m:=hs.length-f) (Nat.sub_pos_of_lt F) (eV (az (Nat.sub_le _ _) I) (by decide)) (show BX (1+(1+M)) W from u3.le (zL rfl));obtain⟨D,sv,Mu,W4,e5⟩:=jW (k+1) g (l:=[.j sY,.j sZ]) (List.cons_ne_nil _ _) (by decide:(2:Nat)<2^40) (show BX (1+M) b4 from Mv);have Z:f+1+r<=hs.length:=zE (Nat.add_lt_of_lt_sub' P) (Nat.add_right_comm _ _ _)
  obtain⟨v,em,hm⟩:=Hn (λz=>by
   have:=congrArg List.length z;rw[List.length_take,List.length_drop,List.length_nil]at this
   exact absurd this (Nat.ne_of_gt (Nat.lt_min.mpr ⟨Nat.sub_pos_of_lt N8,eV (da _) P⟩)):(hs.drop f).take (f+1+r-f)≠[])
  obtain⟨s,ms,rfl⟩:∃s∈([sY,sZ]:List Tx),sv= .j s:=by
   rcases iZ.mp W4 with rfl |h
   ·exact⟨_,.head _,rfl⟩
   ·exact⟨_,.tail _ (.head _),dN.mp h⟩
  have g1:Ev (k+3) [bx D g,.h (.aj (hs.map nv)),.h (.aj (G.map nv)),.h (nv t),.h (nv f),.h (nv (f+1+r)),.h (.j s),.a] (.m [.x [.r 1,.r 3],.i 1]) (nv d):=.y (.Q (w:=nv (d+1)) (.H rfl) (.H rfl) (by rw[di,hd];rfl)) .d (congrArg (λz=>some (AV.m z)) (by
   show Int.ofNat (d+1)-1=Int.ofNat d
   simp only[Int.ofNat_eq_natCast];exact Int.add_sub_cancel (d:Int) 1))
  have O:Ev (k+3) [bx D g,.h (.aj (hs.map nv)),.h (.aj (G.map nv)),.h (nv t),.h (nv f),.h (nv (f+1+r)),.h (.j s),.a] (.I (.op .min [.op (.f true true) [.r 1,.r 4,.r 5]]) [.lt] [.m [.x [.r 1,.r 3],.i 1]]) (bv (decide (v<Int.ofNat d))):=.I (.g (.op (.u (.H rfl) (.u (.H rfl) (.u (.H rfl) .j))) (zz (show f<f+1+r from N8) Z)) em) g1 rfl
  obtain⟨w,A,S,Qy⟩:=(by
   by_cases H:v<Int.ofNat d
   ·rw[decide_eq_true H]at O;exact⟨.aj [],_,.j,Xs.z (fl:=.C (.h (.aj []))) O rfl (.C (.op .j rfl))⟩
   ·rw[decide_eq_false H]at O;refine⟨.aj [CT.p ⟨s,f,f+1+r,t,Int.ofNat d⟩],_,.dI ⟨s,f,f+1+r,t,Int.ofNat d⟩ d ?_ rfl ?_ (show f<f+1+r from N8) Z hd (λp C h2 e he=>?_),Xs.u (.z O .j) (.C (.g (.op (.u (.H rfl) (.u (.H rfl) (.u (.H rfl) (.u (.H rfl) (.u g1 .j))))) rfl) rfl))⟩
    ·rcases iZ.mp ms with rfl |h
     ·exact .head _
     ·exact dN.mp h▸.tail _ (.head _)
    ·rcases iZ.mp ms with rfl |h
     ·rfl
     ·exact dN.mp h▸rfl
    ·have E:=hm e (by
      refine fk (i:=p-f) ?_;have C:f<=p:=C;rw[List.getElem?_take,if_pos (Nat.sub_lt_sub_right C (h2:p<f+1+r)),List.getElem?_drop,Nat.add_sub_cancel' C]
      exact he:e∈(hs.drop f).take (f+1+r-f))
     simp only[Int.ofNat_eq_natCast]at E H
     exact Int.ofNat_le.mp (Int.le_trans (Int.not_lt.mp H) E):∃w A,uX hs w/\aG GP (aa GP (k+3)) ((fd 72).1.drop 4) (bx D g::[.h (.aj (hs.map nv)),.h (.aj (G.map nv)),.h (nv t),.h (nv f),.h (nv (f+1+r)),.h (.j s),.a])= .oK (.C (.h w),bx D g::A))
  refine U (⟨D,w,Mu,S,aO (fl:=.C (.h w)) (env1:=bx D g::A) rfl rfl (.u s0 ?_) rfl⟩)
  exact FN (n:=k+3) (l:=(fd 72).1.drop 2) (x:=[.y (.l [])]) (y:=[]) ec (by
   exact Xs.u (nP (n:=k+3) (x:=2) (y:=3) (fU (b:=B) (r:=[.h (.aj (hs.map nv)),.h (.aj (G.map nv)),.a,.a,.a,.a,.a]) (es:=[.r 2]) (.u (.H rfl) .j) e2) (fU (b:=Q) (es:=[.n [.r 1]]) (vs:=[nv hs.length]) (.u (by have:=Ev.E (n:=k+3) (ah:=bx Q g::[.h (.aj (hs.map nv)),.h (.aj (G.map nv)),.a,.a,.a,.a,.a]) (e:=.r 1) (.H rfl);rw[cz]at this;exact this) .j) e3) rfl rfl) (Xs.u (nP (n:=k+3) (x:=4) (y:=5) (jJ (o:=.G) (a:=.p [.r 4,.i 1]) (u:=nv (f+1)) (w:=nv (f+1+r)) (.G (j:=1) (.H rfl)) (fU (b:=W) (r:=[.h (.aj (hs.map nv)),.h (.aj (G.map nv)),.h (nv t),.h (nv f),.a,.a,.a]) (es:=[.m [.n [.r 1],.r 4]]) (vs:=[nv (hs.length-f)]) (.u (.sub (by have:=Ev.E (n:=k+3) (ah:=bx W g::[.h (.aj (hs.map nv)),.h (.aj (G.map nv)),.h (nv t),.h (nv f),.a,.a,.a]) (e:=.r 1) (.H rfl);rw[cz]at this;exact this) (.H rfl) (fj F)) .j) e4) rfl) (fU (b:=b4) (es:=[.l [.t sY,.t sZ]]) (.u (.y .d .d rfl) .j) e5) rfl rfl) Qy):aG GP (aa GP (k+3)) ([]++(fd 72).1.drop 2) (bx B g::[.h (.aj (hs.map nv)),.h (.aj (G.map nv)),.a,.a,.a,.a,.a])= .oK (.C (.h w),bx D g::A)) (λz=>by cases z) rfl
 ·exact⟨B,.aj [],N.le (gY _ _),.j,aO (fl:=.C (.h (.aj []))) rfl rfl (.u s0 (FN (n:=k+3) (l:=(fd 72).1.drop 2) (x:=[.y (.l [])]) (y:=[]) ec (rN B) (λJ=>⟨_,_,rfl,rN B⟩) rfl)) rfl⟩
def d6.le(s:d6 g d ag hs A):A<=d+ag.length:=by
 induction s with
 |j=>exact fh _
 | @u d q ag hs A hg hn hr t ih=>
  unfold iU at ih;rw[List.length_cons];exact az ih (zR (qb (zH (hg.le) hn (fh _)) _) Fd.symm)
def d6.I(s:d6 g d r1 h1 F)(t:d6 g F D C E):d6 g d (r1++D) (h1++C) E:=by
 induction s with
 |j=>exact t
 | @u d q ag hs d' hg hn hr s ih=>
  refine .u hg hn (λk B A=>?_) (ih t);have:=rW (h1:=d::hs) (t.head) (hr k B A);rw[<-iC]at this;exact this
def xw:∀d,d<=4->d∈rL:=by
 exact λd h=>(by decide:∀d,d<5->d∈rL) d (Nat.lt_succ_of_le h)
def bP(g:GX)(kd:Tx)(mo w:Nat)(K:AV)(b:mK)(t:List SV):List SV:=bx b g::.h (.j kd)::.h (nv mo)::.h (nv w)::.h K::t
noncomputable def u_:List SV:=[.a,.a,.a,.a,.a,.a,.a,.a,.a,.a,.a]
def LW(h:bu GP (aa GP n) es (bP g kd mo w K b (.aj L::.aj H::t))= .oK (vs,bP g kd mo w K b' (.aj L::.aj H::t)))(C:aa GP n 69 (.aj L::.aj H::vs.map .h)= .oK (.h v,[.aj A,.aj B])):ev GP (aa GP n) (.k 69 [5,6] es) (bP g kd mo w K b (.aj L::.aj H::t))= .oK (v,bP g kd mo w K b' (.aj A::.aj B::t)):=by
 show(bu GP (aa GP n) es (bP g kd mo w K b (.aj L::.aj H::t))).i _=_
 rw[h]
 show((aa GP n 69 (.aj L::.aj H::vs.map .h)).i _).i _=_
 rw[C];rfl
def M4:List IS:=match bk 73 1 with
 |.l _ _ _ _ b=>b
 |_ =>[]
def je(r:List Q4)(h:List Nat)(d:Nat)(x y:SV):List SV:=.aj (r.map r4)::.aj (h.map nv)::.h (nv d)::x::y::u_
def CM(k)(mg:g∈fW)(N:mo<=4)(Z:w<11)(s:d6 g 0 r h d)(R:r.length<=mo)(i)(y)(P:BX (10+M) b):RM (λb' r' h' C G=>BX M b') (λb' r' h' C G=>d6 g 0 r' h' C) (λb' r' h' C G=>r'.length<=mo) (λb' r' h' C G=>(mo=4\/r≠[]->r'≠[])) (λb' r' h' C G=>Xs (k+12) (bP g kd mo w K b (je r h d (.h (nv i)) y)) M4 (.oK (.a,bP g kd mo w K b' (je r' h' C (.h (nv i)) G)))):=by
 refine bB λo S=>?_
 obtain⟨B,F,L,X,j⟩:=(by
  have I:Ev (k+12) (bP g kd mo w K b (je r h d (.h (nv i)) y)) (.q (.r 8) (.i 0)) (bv (i==0)):=.I (u:=nv i) (v:=nv 0) (.H rfl) .d (congrArg some (show(Int.ofNat i==Int.ofNat 0)=(i==0)by
   cases e:i==0
   ·exact beq_eq_false_iff_ne.mpr λz=>absurd (Int.ofNat.inj z) (ne_of_beq_false e)
   ·rw[eq_of_beq e];rfl))
  cases c:i==0
  ·rw[c]at I;obtain⟨B,x,L,Y,e⟩:=bU (k+11) g (m:=11) (by decide) (by decide) (show BX (1+(9+M)) b from P.le (zL rfl));refine⟨B,x,L,Y,?_⟩
   show(ev GP (aa GP (k+12)) (.q (.r 8) (.i 0)) _).i _=_
   rw[show ev GP (aa GP (k+12)) (.q (.r 8) (.i 0)) _=_ from I];exact fU (b:=b) (es:=[.i 11]) (vs:=[nv 11]) (.u .d .j) e
  ·rw[c]at I
   exact⟨b,w,P.le (zK rfl),Z,Ev.L I (.H rfl)⟩:∃B F,BX (9+M) B/\F<11/\ev GP (aa GP (k+12)) (.L (.q (.r 8) (.i 0)) (.r 3) (.k 55 [0] [.i 11])) (bP g kd mo w K b (je r h d (.h (nv i)) y))= .oK (nv F,bP g kd mo w K B (je r h d (.h (nv i)) y)))
 obtain⟨A,v,O,U,W⟩:=z_ (k+1) mg (xw d (az (Nat.zero_add r.length▸s.le:d<=r.length) (az R N))) F (List.mem_range.mpr X) M B L;refine S ?_
 cases U with
 | @mk ag hs C sp ne E=>
  have E:=iD E
  have Q:Ex (k+12) (bP g kd mo w K b (je r h d (.h (nv i)) y)) (M4.getD 0 .cont) (bP g kd mo w K A (je r h d (.h (nv i)) (.h (.aj (ag.map r4))))):=by
   show((ev GP (aa GP (k+12)) (.k 67 [0] _) (bP g kd mo w K b (je r h d (.h (nv i)) y))).i _).i _=_
   rw[(by
    show(bu GP (aa GP (k+12)) _ (bP g kd mo w K b (je r h d (.h (nv i)) y))).i _=_
    rw[(by
     show((ev GP (aa GP (k+12)) (.L _ _ _) (bP g kd mo w K b (je r h d (.h (nv i)) y))).i _).i _=_
     rw[j];rfl:bu GP (aa GP (k+12)) [.r 7,.L (.q (.r 8) (.i 0)) (.r 3) (.k 55 [0] [.i 11])] (bP g kd mo w K b (je r h d (.h (nv i)) y))= .oK ([nv d,nv F],bP g kd mo w K B (je r h d (.h (nv i)) y)))]
    show((aa GP (k+12) 67 [bx B g,.h (nv d),.h (nv F)]).i _).i _=_
    rw[show aa GP (k+12) 67 [bx B g,.h (nv d),.h (nv F)]=_ from W];rfl:ev GP (aa GP (k+12)) (.k 67 [0] [.r 7,.L (.q (.r 8) (.i 0)) (.r 3) (.k 55 [0] [.i 11])]) (bP g kd mo w K b (je r h d (.h (nv i)) y))= .oK (.aj (ag.map r4),bP g kd mo w K A (je r h d (.h (nv i)) y)))];rfl
  have H:Ev (k+12) (bP g kd mo w K A (je r h d (.h (nv i)) (.h (.aj (ag.map r4))))) (.I (.p [.O 5 none,.n [.r 9]]) [.le] [.r 2]) (bv ((r.length+ag.length).ble mo)):=.I (u:=nv (r.length+ag.length)) (.E5 (by
   have:=Ev.O (n:=k+12) (ah:=bP g kd mo w K A (je r h d (.h (nv i)) (.h (.aj (ag.map r4))))) (x:=5) (l:=r.map r4) rfl
   rw[cz]at this;exact this) (by
   have:=Ev.E (n:=k+12) (ah:=bP g kd mo w K A (je r h d (.h (nv i)) (.h (.aj (ag.map r4))))) (e:=.r 9) (l:=ag.map r4) (.H rfl)
   rw[cz]at this;exact this)) (.H rfl) (congrArg some (by
   cases e:(r.length+ag.length).ble mo
   ·exact decide_eq_false λc=>absurd (Nat.ble_eq.mpr (Int.ofNat_le.mp c)) (by rw[e];exact fO)
   ·exact decide_eq_true (Int.ofNat_le.mpr (Nat.ble_eq.mp e))))
  cases c:(r.length+ag.length).ble mo
  ·rw[c]at H;refine⟨A,r,h,d,_,O,s,R,λz=>?_,.u Q (.u (.z H .j) .j)⟩;rcases z with z |z
   ·intro V;have:(r.length+ag.length).ble mo=true:=Nat.ble_eq.mpr (by rw[V,z];show 0+ag.length<=4;exact zE E (Nat.zero_add _));rw[c]at this;cases this
   ·exact z
  ·rw[c]at H;have D:=iD c
   refine⟨A,r++ag,h++hs,C,_,O,s.I sp,by rw[dc];exact D,λJ z=>ne (List.append_eq_nil_iff.mp z).2,.u Q (.u (.z H (.u (by
    show((ev GP (aa GP (k+12)) (.k 69 [5,6] _) (bP g kd mo w K A (.aj (r.map r4)::.aj (h.map nv)::.h (nv d)::.h (nv i)::.h (.aj (ag.map r4))::u_))).i _).i _=_
    rw[(LW (n:=k+12) (kd:=kd) (mo:=mo) (w:=w) (K:=K) (b:=A) (b':=A) (g:=g) (t:=.h (nv d)::.h (nv i)::.h (.aj (ag.map r4))::u_) (es:=[.r 9,.r 7]) (mW.u (.H rfl) (.u (.H rfl) .j)) (w9 (k+10) sp (r.map r4) (h.map nv) (by rw[cz];exact Cf D N rfl) (by rw[cz,(s.at.1)];exact Cf D N rfl))),<-List.map_append,<-List.map_append];rfl:Ex (k+12) (bP g kd mo w K A (je r h d (.h (nv i)) (.h (.aj (ag.map r4))))) (.h 7 false (.k 69 [5,6] [.r 9,.r 7])) (bP g kd mo w K A (je (r++ag) (h++hs) C (.h (nv i)) (.h (.aj (ag.map r4)))))) .j)) .j)⟩
def zg(k)(mg:g∈fW)(X:mo<=4)(v:w<11):∀(l:List Nat) {r:List Q4} {h:List Nat} {d:Nat},d6 g 0 r h d->r.length<=mo->∀(x y:SV) (M:Nat) (b:mK),BX (10*l.length+M) b->RB (λb' r' h' A B C=>BX M b') (λb' r' h' A B C=>d6 g 0 r' h' A) (λb' r' h' A B C=>r'.length<=mo) (λb' r' h' A B C=>(r≠[]\/mo=4/\l≠[]->r'≠[])) (λb' r' h' A B C=>forLoop (aN [8] false) (λah=>aG GP (aa GP (k+12)) M4 ah) (l.map nv) (bP g kd mo w K b (je r h d x y))= .oK (.a,bP g kd mo w K b' (je r' h' A B C))):=by
 intro l
 induction l with
 |nil=>exact λs E x y M b D=>⟨b,_,_,_,x,y,D.le (by rw[List.length_nil];exact gY _ _),s,E,λz=>z.elim id λq=>absurd rfl q.2,rfl⟩
 |cons i l R=>
  intro r h d s E x y M b D;rw[List.length_cons]at D;refine bB λc F=>?_;obtain⟨Y,p,t,f,L,W,U,j,N,I⟩:=CM k mg (kd:=kd) X v (K:=K) s E i y (M:=10*l.length+M) (b:=b) (D.le Gi);obtain⟨G,u,Z,o,m,O,H,Q,S,P,V⟩:=R U j (.h (nv i)) L M Y W;refine F (⟨G,u,Z,o,m,O,H,Q,S,λz=>P (.inl (N (z.elim .inr λq=>.inl q.1))),?_⟩)
  show(aN [8] false (nv i) (bP g kd mo w K b (je r h d x y))).i _=_
  rw[(rfl:aN [8] false (nv i) (bP g kd mo w K b (je r h d x y))= .oK (bP g kd mo w K b (je r h d (.h (nv i)) y)))]
  show(aG GP (aa GP (k+12)) M4 (bP g kd mo w K b (je r h d (.h (nv i)) y))).i _=_
  rw[show aG GP (aa GP (k+12)) M4 _=_ from I];exact V
def AE(k)(mg:g∈fW)(B:mo<=4)(V:w<11)(Q:BX (34+M) b):RE (λb' ag hs C x y=>BX M b') (λb' ag hs C x y=>Lay g ag hs) (λb' ag hs C x y=>(mo=4->2<=ag.length)) (λb' ag hs C x y=>aG GP (aa GP (k+12)) [bk 73 0,bk 73 1,bk 73 2] (bP g kd mo w K b (.a::.a::.a::.a::.a::u_))= .oK (.a,bP g kd mo w K b' (je ag hs C x y))):=by
 refine bB λW L=>?_
 obtain⟨l,H,U,I⟩:∃l:List Nat,l.length<=3/\l≠[]/\mW (k+12) (bP g kd mo w K b (je [] [] 0 .a .a)) [.L (.at 0 none (.i 3)) (.i 1) (.i 3)] [nv l.length]/\(List.range l.length).map nv=l.map nv:=by
  induction hf:g.fl using aR
  ·exact⟨[0,1,2],fh 3,List.cons_ne_nil _ _,.u (.L (b:=false) (hf▸rfl) .d) .j,rfl⟩
  ·exact⟨[0],by decide,List.cons_ne_nil _ _,.u (.L (b:=true) (hf▸rfl) .d) .j,rfl⟩
 obtain⟨A,r,h,d,x,y,S,s,E,P,O⟩:=zg k mg (kd:=kd) B V (K:=K) l (.j (g:=g) (d:=0)) (da mo) .a .a (4+M) b (Q.le (az (qb (Nat.mul_le_mul_left 10 H) _) (zL rfl)));obtain⟨D,v,N,⟨ag,hs,C,rfl,G,F⟩,R⟩:=DT (k+1) mg (xw d (az (Nat.zero_add r.length▸s.le:d<=r.length) (az E B))) M A S;refine L ?_
 refine⟨D,r++ag,h++hs,d,x,y,N,.of s G (az E B) F,λz=>?_,Xs.u (rfl:Ex (k+12) (bP g kd mo w K b (.a::.a::.a::.a::.a::u_)) (bk 73 0) (bP g kd mo w K b (je [] [] 0 .a .a))) (.u (.a I.1 ((j7 (az H (by decide))).trans (congrArg some I.2)) O:Ex (k+12) (bP g kd mo w K b (je [] [] 0 .a .a)) (bk 73 1) (bP g kd mo w K A (je r h d x y))) (.u (by
  show(ev GP (aa GP (k+12)) (.k 69 [5,6] _) (bP g kd mo w K A (.aj (r.map r4)::.aj (h.map nv)::.h (nv d)::x::y::u_))).i _=_
  rw[(LW (n:=k+12) (kd:=kd) (mo:=mo) (w:=w) (K:=K) (b:=A) (b':=D) (g:=g) (t:=.h (nv d)::x::y::u_) (by
   show(ev GP (aa GP (k+12)) (.k 70 [0] [.r 7]) (bx A g::(bP g kd mo w K A (je r h d x y)).tail)).i _=_
   rw[(fU (n:=k+12) (b:=A) (r:=(bP g kd mo w K A (je r h d x y)).tail) (es:=[.r 7]) (vs:=[nv d]) (.u (.H rfl) .j) R)];rfl:bu GP (aa GP (k+12)) [.k 70 [0] [.r 7],.r 7] (bP g kd mo w K A (je r h d x y))= .oK ([.aj (ag.map r4),nv d],bP g kd mo w K D (je r h d x y))) (w9 (k+10) G.s (r.map r4) (h.map nv) (by rw[cz];exact zT (Nat.add_le_add (az E B) F) rfl) (by rw[cz,(s.at.1)];exact zT (Nat.add_le_add (az E B) F) rfl))),<-List.map_append,<-List.map_append];rfl:Ex (k+12) (bP g kd mo w K A (je r h d x y)) (bk 73 2) (bP g kd mo w K D (je (r++ag) (h++hs) d x y))) .j))⟩
 rw[dc];exact Nat.add_le_add (List.length_pos_iff.mpr (P (.inr ⟨z,U⟩))) (List.length_pos_iff.mpr G.ne)
structure uT(mo:Nat)(hs:List Nat)(i:Nat)(q:Q4)(r:RD):Prop where
 op:r.op=q.1
 b:r.b=q.2.2.1
 c:r.c=q.2.2.2
 l:r.l=Int.ofNat (10*mo+i)
 a:du q.1=false->r.a=q.2.1
 j:du q.1=true->RT (λt e=>r.a=nv t) (λt e=>t<hs.length) (λt e=>hs[i]? =some e) (λt e=>hs[t]? =some (iU e q.1))
def Py:∀o∈rh,(hZ GP (.f false true) [.j o,.m 4]).bind (λv=>d_ .eq v (.j bc))=some (du o):=by
 exact ax (by kernel_rfl:(rh.map λo=>(hZ GP (.f false true) [.j o,.m 4]).bind (λv=>d_ .eq v (.j bc)))=rh.map λo=>some (du o))
def e4(q:Nat×Q4):AV:=.tup [nv q.1,r4 q.2]
noncomputable def eq4(k:Nat):List Q4->List (Nat×Q4)
 |[]=>[]
 |r::l=>(k,r)::eq4 (k+1) l
def Bn(l):∀k:Nat,i8 (Int.ofNat k) (l.map r4)=(eq4 k l).map e4:=by
 induction l with
 |nil=>exact λz=>rfl
 |cons r l A=>exact λk=>congrArg (e4 (k,r):: ·) (A (k+1))
def Jj:List IS:=match bk 73 4 with
 |.l _ _ _ _ b=>b
 |_ =>[]
structure Nn where
 d:Nat
 x:SV
 y:SV
 st:SV
 p:SV
 q:SV
 o:SV
 a:SV
 b:SV
 c:SV
def I9(hs:List Nat):List SV:=[.aj (hs.map nv),.h (.aj (hs.map nv))]
def jF(ag:List Q4)(Z:SV)(A:List RD)(j:Nn):List SV:=.h (.aj (ag.map r4))::Z::.h (nv j.d)::j.x::j.y::.aj (A.map RD.p)::j.st::j.p::j.q::j.o::j.a::j.b::j.c::[.a,.a,.a]
def Su(h:bu GP (aa GP n) es (bP g kd mo w K b (jF ag (.h (.aj (hs.map nv))) A j))= .oK (vs,bP g kd mo w K b (jF ag (.h (.aj (hs.map nv))) A j))):∀Z∈I9 hs,bu GP (aa GP n) (.r 6::es) (bP g kd mo w K b (jF ag Z A j))= .oK (.aj (hs.map nv)::vs,bP g kd mo w K b (jF ag (.h (.aj (hs.map nv))) A j)):=by
 intro Z mZ
 show(ev GP (aa GP n) (.r 6) (bP g kd mo w K b (jF ag Z A j))).i _=_
 rw[(by
  rcases iZ.mp mZ with rfl |mZ
  ·rfl
  ·cases dN.mp mZ;rfl:ev GP (aa GP n) (.r 6) (bP g kd mo w K b (jF ag Z A j))= .oK (.aj (hs.map nv),bP g kd mo w K b (jF ag (.h (.aj (hs.map nv))) A j)))]
 show(bu GP (aa GP n) es _).i _=_
 rw[h];rfl
def o7(h:Ev n ah t (bv c)):ev GP (aa GP n) (.L t a b) ah=ev GP (aa GP n) (bif c then a else b) ah:=by
 show(ev GP (aa GP n) t ah).i _=_
 rw[show ev GP (aa GP n) t ah=_ from h]
 induction c using aR<;>rfl
def yg(k)(oJ:mo<=4)(L:Lay g ag hs)(W:ag[i]? =some q)(s:A.length<=100)(N:Z∈I9 hs)(j:Nn)(O:BX (1+M) b):RQ (λb' r B D=>BX M b') (λb' r B D=>uT mo hs i q r) (λb' r B D=>B∈I9 hs) (λb' r B D=>D.st=j.st) (λb' r B D=>Xs (k+4) (bP g kd mo w K b (jF ag Z A {j with p:=.h (nv i),q:=.h (r4 q)})) Jj (.oK (.a,bP g kd mo w K b' (jF ag B (A++[r]) D)))):=by
 obtain⟨V,e,S,c,-,Y⟩:=L.pt i q W;have U:Ex (k+4) (bP g kd mo w K b (jF ag Z A {j with p:=.h (nv i),q:=.h (r4 q)})) (Jj.getD 0 .cont) (bP g kd mo w K b (jF ag Z A ⟨j.d,j.x,j.y,j.st,.h (nv i),.h (r4 q),.h (.j q.1),.h q.2.1,.h q.2.2.1,.h q.2.2.2⟩)):=.r (.H rfl) rfl
 have G:Ev (k+4) (bP g kd mo w K b (jF ag Z A ⟨j.d,j.x,j.y,j.st,.h (nv i),.h (r4 q),.h (.j q.1),.h q.2.1,.h q.2.2.1,.h q.2.2.2⟩)) (.q (.op (.f false true) [.r 14,.i 4]) (.t bc)) (bv (du q.1)):=by
  refine bB λP0 I=>?_;refine dg (Py q.1 V.op) λv m e2=>?_;exact I (.I (.y (.H rfl) .d m) .d e2)
 have E:∀(b':mK) (B:SV) (v:AV),Ex (k+4) (bP g kd mo w K b' (jF ag B A ⟨j.d,j.x,j.y,j.st,.h (nv i),.h (r4 q),.h (.j q.1),.h v,.h q.2.2.1,.h q.2.2.2⟩)) (Jj.getD 2 .cont) (bP g kd mo w K b' (jF ag B (A++[⟨q.1,v,q.2.2.1,q.2.2.2,Int.ofNat (10*mo+i)⟩]) ⟨j.d,j.x,j.y,j.st,.h (nv i),.h (r4 q),.h (.j q.1),.h v,.h q.2.2.1,.h q.2.2.2⟩)):=λb' B v=>by
  have:=Ex.I (n:=k+4) (ah:=bP g kd mo w K b' (jF ag B A ⟨j.d,j.x,j.y,j.st,.h (nv i),.h (r4 q),.h (.j q.1),.h v,.h q.2.2.1,.h q.2.2.2⟩)) (x:=10) (l:=A.map RD.p) (e:=.u [.r 14,.r 15,.r 16,.r 17,.p [.op .a [.i 10,.r 2],.r 12]]) (v:=RD.p ⟨q.1,v,q.2.2.1,q.2.2.2,Int.ofNat (10*mo+i)⟩) rfl (.op (.u (.H rfl) (.u (.H rfl) (.u (.H rfl) (.u (.H rfl) (.u (.E5 (.y .d (.H (v:=nv mo) rfl) (if_pos ⟨by decide,eV oJ (by decide)⟩):Ev (k+4) (bP g kd mo w K b' (jF ag B A ⟨j.d,j.x,j.y,j.st,.h (nv i),.h (r4 q),.h (.j q.1),.h v,.h q.2.2.1,.h q.2.2.2⟩)) (.op .a [.i 10,.r 2]) (nv (10*mo))) (.H rfl)) .j))))) rfl) (by rw[cz];exact eV s (by decide));rw[show A.map RD.p++[RD.p ⟨q.1,v,q.2.2.1,q.2.2.2,Int.ofNat (10*mo+i)⟩]=(A++[RD.mk q.1 v q.2.2.1 q.2.2.2 (Int.ofNat (10*mo+i))]).map RD.p from(List.map_append (f:=RD.p) (l₁:=A) (l₂:=[RD.mk q.1 v q.2.2.1 q.2.2.2 (Int.ofNat (10*mo+i))])).symm]at this;exact this
 cases hj:du q.1
 ·rw[hj]at G;exact⟨b,⟨q.1,q.2.1,q.2.2.1,q.2.2.2,Int.ofNat (10*mo+i)⟩,Z,⟨j.d,j.x,j.y,j.st,.h (nv i),.h (r4 q),.h (.j q.1),.h q.2.1,.h q.2.2.1,.h q.2.2.2⟩,O.le (gY _ _),⟨rfl,rfl,rfl,rfl,λJ=>rfl,λz=>absurd (hj.symm.trans z) fO⟩,N,rfl,.u U (.u (.z G .j) (.u (E b Z _) .j))⟩
 ·rw[hj]at G;refine bB λP0 I=>?_
  obtain⟨F,t,H,P,Pk,R,Q,eg⟩:=(by
   have C:q.2.1= .r\/∃k,q.2.1=nv k:=by
    cases V with
    |n h=>exact absurd ((gf.j h).symm.trans hj) fO
    |j _ a _ =>exact a
   rcases C with C |⟨u,C⟩
   ·obtain⟨F,v,P,⟨t,R,rfl,Q⟩,o⟩:=Ei k L W hj S c M b O;refine⟨F,t,.h (.aj (hs.map nv)),P,.tail _ (.head _),R,Q,?_⟩
    refine(o7 (.I (u:=q.2.1) (.H rfl) .d (by rw[C];rfl):Ev (k+4) (bP g kd mo w K b (jF ag Z A ⟨j.d,j.x,j.y,j.st,.h (nv i),.h (r4 q),.h (.j q.1),.h q.2.1,.h q.2.2.1,.h q.2.2.2⟩)) (.I (.r 15) [.is] [.d .r]) (bv true))).trans ?_
    show(bu GP (aa GP (k+4)) [.r 5,.r 6,.r 12] _).i _=_
    rw[(by
     show(bu GP (aa GP (k+4)) [.r 6,.r 12] (bP g kd mo w K b (jF ag Z A ⟨j.d,j.x,j.y,j.st,.h (nv i),.h (r4 q),.h (.j q.1),.h q.2.1,.h q.2.2.1,.h q.2.2.2⟩))).i _=_
     rw[(Su (n:=k+4) (g:=g) (kd:=kd) (mo:=mo) (w:=w) (K:=K) (b:=b) (ag:=ag) (A:=A) (j:=⟨j.d,j.x,j.y,j.st,.h (nv i),.h (r4 q),.h (.j q.1),.h q.2.1,.h q.2.2.1,.h q.2.2.2⟩) (hs:=hs) (es:=[.r 12]) (mW.u (.H rfl) .j) Z N)];rfl:bu GP (aa GP (k+4)) [.r 5,.r 6,.r 12] (bP g kd mo w K b (jF ag Z A ⟨j.d,j.x,j.y,j.st,.h (nv i),.h (r4 q),.h (.j q.1),.h q.2.1,.h q.2.2.1,.h q.2.2.2⟩))= .oK ([.aj (ag.map r4),.aj (hs.map nv),nv i],bP g kd mo w K b (jF ag (.h (.aj (hs.map nv))) A ⟨j.d,j.x,j.y,j.st,.h (nv i),.h (r4 q),.h (.j q.1),.h q.2.1,.h q.2.2.1,.h q.2.2.2⟩)))]
    show((aa GP (k+4) 71 [bx b g,.h (.aj (ag.map r4)),.h (.aj (hs.map nv)),.h (nv i)]).i _).i _=_
    rw[show aa GP (k+4) 71 [bx b g,.h (.aj (ag.map r4)),.h (.aj (hs.map nv)),.h (nv i)]=_ from o];rfl
   ·have X:=Y u hj C;refine⟨b,i+u,Z,O.le (gY _ _),N,(mE.mp X).1,X,?_⟩
    exact Ev.L (.I (u:=q.2.1) (.H rfl) .d (by rw[C];rfl):Ev (k+4) (bP g kd mo w K b (jF ag Z A ⟨j.d,j.x,j.y,j.st,.h (nv i),.h (r4 q),.h (.j q.1),.h q.2.1,.h q.2.2.1,.h q.2.2.2⟩)) (.I (.r 15) [.is] [.d .r]) (bv false)) (.E5 (.H rfl) (.H (by rw[C];rfl))):∃b' t B,BX M b'/\B∈I9 hs/\t<hs.length/\hs[t]? =some (iU e q.1)/\ev GP (aa GP (k+4)) (.L (.I (.r 15) [.is] [.d .r]) (.k 71 [0] [.r 5,.r 6,.r 12]) (.p [.r 12,.r 15])) (bP g kd mo w K b (jF ag Z A ⟨j.d,j.x,j.y,j.st,.h (nv i),.h (r4 q),.h (.j q.1),.h q.2.1,.h q.2.2.1,.h q.2.2.2⟩))= .oK (nv t,bP g kd mo w K b' (jF ag B A ⟨j.d,j.x,j.y,j.st,.h (nv i),.h (r4 q),.h (.j q.1),.h q.2.1,.h q.2.2.1,.h q.2.2.2⟩)))
  refine I ?_
  exact⟨F,⟨q.1,nv t,q.2.2.1,q.2.2.2,Int.ofNat (10*mo+i)⟩,H,⟨j.d,j.x,j.y,j.st,.h (nv i),.h (r4 q),.h (.j q.1),.h (nv t),.h q.2.2.1,.h q.2.2.2⟩,P,⟨rfl,rfl,rfl,rfl,λz=>absurd (hj.symm.trans z) (by decide),λJ=>⟨t,e,rfl,R,S,Q⟩⟩,Pk,rfl,.u U (.u (.z G (.u (by
   show((ev GP (aa GP (k+4)) (.L _ _ _) _).i _).i _=_
   rw[eg];rfl:Ex (k+4) (bP g kd mo w K b (jF ag Z A ⟨j.d,j.x,j.y,j.st,.h (nv i),.h (r4 q),.h (.j q.1),.h q.2.1,.h q.2.2.1,.h q.2.2.2⟩)) (.h 15 false (.L (.I (.r 15) [.is] [.d .r]) (.k 71 [0] [.r 5,.r 6,.r 12]) (.p [.r 12,.r 15]))) (bP g kd mo w K F (jF ag H A ⟨j.d,j.x,j.y,j.st,.h (nv i),.h (r4 q),.h (.j q.1),.h (nv t),.h q.2.2.1,.h q.2.2.2⟩))) .j)) (.u (E F H _) .j))⟩
def HY{ah env0 env1:List SV}(h:bu GP (aa GP n) es ah= .oK (vs,env0))(B:bz k vs=some items)(A:forLoop (aN tg tup) (λah=>aG GP (aa GP n) body ah) items env0= .oK (.a,env1)):Ex n ah (.l tg tup k es body) env1:=by
 show(bu GP (aa GP n) es ah).i _=_
 rw[h]
 show(aD.d (bz k vs)).i _=_
 rw[B];exact A
def Made(mo:Nat)(hs:List Nat)(ag:List Q4)(A:List RD):Prop:=∀(t:Nat) r,A[t]? =some r->∃q,ag[t]? =some q/\uT mo hs t q r
def Aw(k)(a:mo<=4)(L:Lay g ag hs):∀(rest:List Q4) (i:Nat),(∀t,rest[t]? =ag[i+t]?)->i+rest.length=ag.length->∀(A:List RD) (Z:SV) (j:Nn) (M:Nat) (b:mK),A.length=i->Made mo hs ag A->Z∈I9 hs->BX (rest.length+M) b->RP (λb' B D C=>BX M b') (λb' B D C=>B.length=ag.length) (λb' B D C=>Made mo hs ag B) (λb' B D C=>D∈I9 hs) (λb' B D C=>C.st=j.st) (λb' B D C=>forLoop (aN [12,13] true) (λah=>aG GP (aa GP (k+4)) Jj ah) ((eq4 i rest).map e4) (bP g kd mo w K b (jF ag Z A j))= .oK (.a,bP g kd mo w K b' (jF ag D B C))):=by
 intro rest
 induction rest with
 |nil=>exact λi O G A Z j M b F N I H=>⟨b,A,Z,j,H.le (gY _ _),F.trans G,N,I,rfl,rfl⟩
 |cons q rest m=>
  intro i O G A Z j M b F N I H;rw[List.length_cons]at G H;refine bB λP0 S=>?_;have Q:ag[i]? =some q:=(O 0).symm;obtain⟨x,r,R,e,f,o,Pk,W,X⟩:=yg k (kd:=kd) (w:=w) (K:=K) a L Q (A:=A) (Cf (zE (az (eN _ _) (Nat.le_of_eq G)) F) (L.n) rfl) I j (M:=rest.length+M) (b:=b) (H.le z1)
  obtain⟨U,h,l,s,V,y,Y,v,u,d⟩:=m (i+1) (λt=>by
   rw[Nat.add_assoc,Nat.add_comm 1 t]
   exact(O (t+1))) (Fd.trans G) (A++[r]) R e M x (by rw[dc,F];rfl) (λt z E=>by
   rcases Nat.lt_or_ge t A.length with c |c
   ·rw[lI c]at E;exact N t z E
   ·rw[pw c]at E;have P:t-A.length=0:=Nat.lt_one_iff.mp (mE.mp E).1;rw[P]at E;cases E
    exact((Nat.le_antisymm (Nat.le_of_sub_eq_zero P) c).trans F:t=i)▸⟨q,Q,o⟩) Pk f
  refine S (⟨U,h,l,s,V,y,Y,v,u.trans W,?_⟩)
  show(aN [12,13] true (e4 (i,q)) (bP g kd mo w K b (jF ag Z A j))).i _=_
  rw[(rfl:aN [12,13] true (e4 (i,q)) (bP g kd mo w K b (jF ag Z A j))= .oK (bP g kd mo w K b (jF ag Z A {j with p:=.h (nv i),q:=.h (r4 q)})))]
  show(aG GP (aa GP (k+4)) Jj (bP g kd mo w K b (jF ag Z A {j with p:=.h (nv i),q:=.h (r4 q)}))).i _=_
  rw[show aG GP (aa GP (k+4)) Jj _=_ from X];exact d
def nr(ag:List Q4)(hs:List Nat)(A:List RD)(j:Nn)(C u:SV):List SV:=.h (.aj (ag.map r4))::.h (.aj (hs.map nv))::.h (nv j.d)::j.x::j.y::.aj (A.map RD.p)::j.st::j.p::j.q::j.o::j.a::j.b::j.c::[C,u,.a]
inductive E_(hs:List Nat):List Nat->Prop
 |dI:E_ hs [0]
 |two {s:Nat} (h:hs[s]? =some 0):E_ hs [s,0]
def xW(k)(L:Lay g ag hs)(A)(j)(C)(V:j.st= .h (.aj [nv 0]))(F:BX (2+M) b):kO (λb' S=>BX M b') (λb' S=>E_ hs S) (λb' S=>Ex (k+4) (bP g kd mo w K b (nr ag hs A j C .a)) (bk 73 6) (bP g kd mo w K b' (nr ag hs A {j with st:=.h (.aj (S.map nv))} C .a))):=by
 have I:hs.length<=100:=L.E▸az L.n (by decide)
 obtain⟨B,c,D,X⟩:=(by
  induction hf:g.fl using aR
  ·obtain⟨B,r,D,f,e⟩:=bU (k+3) g (m:=2) (by decide) (by decide) (show BX (1+(1+M)) b from F.le (zL rfl));refine⟨B,r==0,D,?_⟩;show bO GP (aa GP (k+4)) true _ _=_
   show(ev GP (aa GP (k+4)) (.o [.at 0 none (.i 3)]) _).i _=_
   rw[show ev GP (aa GP (k+4)) (.o [.at 0 none (.i 3)]) _=_ from(.not (b:=false) (hf▸rfl):Ev (k+4) (bP g kd mo w K b (nr ag hs A j C .a)) (.o [.at 0 none (.i 3)]) (bv true))]
   show((ev GP (aa GP (k+4)) (.k 55 [0] [.i 2]) (bx b g::(bP g kd mo w K b (nr ag hs A j C .a)).tail)).i _).i _=_
   rw[(fU (n:=k+4) (b:=b) (r:=(bP g kd mo w K b (nr ag hs A j C .a)).tail) (es:=[.i 2]) (vs:=[nv 2]) (.u .d .j) e)];obtain rfl |rfl:=Mine.Gj f<;>rfl
  ·exact⟨b,false,F.le (zK rfl),Ev.U (.and (b:=false) (c:=true) (.not (b:=true) (hf▸rfl):Ev (k+4) (bP g kd mo w K b (nr ag hs A j C .a)) (.o [.at 0 none (.i 3)]) (bv false)) λz=>by cases z)⟩:∃B c,BX (1+M) B/\ev GP (aa GP (k+4)) (.and [.o [.at 0 none (.i 3)],.q (.k 55 [0] [.i 2]) (.i 0)]) (bP g kd mo w K b (nr ag hs A j C .a))= .oK (bv c,bP g kd mo w K B (nr ag hs A j C .a)))
 have P:eG GP (aa GP (k+4)) (bk 73 6) (bP g kd mo w K b (nr ag hs A j C .a))=if c then aG GP (aa GP (k+4)) (match bk 73 6 with |.d _ c _ =>c |_ =>[]) (bP g kd mo w K B (nr ag hs A j C .a))else .oK (.a,bP g kd mo w K B (nr ag hs A j C .a)):=by
  show(ev GP (aa GP (k+4)) (.and _) _).i _=_
  rw[X];rfl
 induction c using aR
 ·exact⟨B,[0],D.le (gY _ _),.dI,P.trans (by rw[show{j with st:=SV.h (.aj ([0].map nv))}=j by cases j;cases V;rfl];rfl)⟩
 ·refine bB λh Q=>?_
  have N:=Ev.xB (n:=k+4) (j:=SV.a) (λu=>bP g kd mo w K B (.h (.aj (ag.map r4))::.h (.aj (hs.map nv))::.h (nv j.d)::j.x::j.y::.aj (A.map RD.p)::j.st::j.p::j.q::j.o::j.a::j.b::j.c::[C,.a,u])) nv nv id (λi=>hs.getD i 0==0) (l:=List.range hs.length) (elt:=.r 20) (tg:=[20]) (tup:=false) (k:=.range) (es:=[.n [.r 6]]) (cond:=[.q (.x [.r 6,.r 20]) (.i 0)]) (.u (.E (.H rfl)) .j) (by rw[cz];exact j7 I) (λJ=>rfl) λi U j=>⟨.h (nv i),rfl,.dI (.I (u:=nv (hs.getD i 0)) (v:=nv 0) (.Q (.H rfl) (.H rfl) (by
   rw[di,kM,ij (List.mem_range.mp U)];rfl)) .d (congrArg some (show(Int.ofNat (hs.getD i 0)==Int.ofNat 0)=_ by
   cases e:hs.getD i 0==0
   ·exact beq_eq_false_iff_ne.mpr λz=>absurd (Int.ofNat.inj z) (ne_of_beq_false e)
   ·rw[eq_of_beq e];rfl))),λJ=>.H rfl⟩
  rw[List.map_id]at N;have G:0∈(List.range hs.length).filter λi=>hs.getD i 0==0:=ic.mpr ⟨List.mem_range.mpr (mE.mp L.h0).1,by rw[kM,L.h0];rfl⟩
  obtain⟨E,v,R,W,Y⟩:=jW (k+2) g (l:=((List.range hs.length).filter λi=>hs.getD i 0==0).map nv) (λz=>by
   rw[List.map_eq_nil_iff.mp z]at G;cases G) (by
   rw[cz]
   exact eV (az (List.length_filter_le _ _) (by rw[List.length_range];exact I)) (by decide)) D
  refine bZ W λs ms t=>?_;obtain rfl:=t;refine Hv ms λZ H=>?_;refine Q ?_
  refine⟨E,[s,0],R,.two (by
   have O:=ij (List.mem_range.mp Z);rw[kM,O]at H;rw[O]
   exact congrArg some (eq_of_beq H):hs[s]? =some 0),P.trans ?_⟩
  exact Xs.u (by
   show(((bu GP (aa GP (k+4)) _ (bP g kd mo w K B (nr ag hs A j C .a))).i _).i _).i _=_
   rw[(by
    show(ev GP (aa GP (k+4)) (.k 56 [0] _) (bx B g::(bP g kd mo w K B (nr ag hs A j C .a)).tail)).i _=_
    rw[(fU (n:=k+4) (b:=B) (r:=(bP g kd mo w K B (nr ag hs A j C .a)).tail) (.u N .j) Y)];rfl:bu GP (aa GP (k+4)) [.k 56 [0] [.B (.r 20) [20] false .range [.n [.r 6]] [.q (.x [.r 6,.r 20]) (.i 0)]],.i 0] (bP g kd mo w K B (nr ag hs A j C .a))= .oK ([nv s,nv 0],bP g kd mo w K E (nr ag hs A j C .a)))];rfl:Ex (k+4) (bP g kd mo w K B (nr ag hs A j C .a)) (.h 11 false (.l [.k 56 [0] [.B (.r 20) [20] false .range [.n [.r 6]] [.q (.x [.r 6,.r 20]) (.i 0)]],.i 0])) (bP g kd mo w K E (nr ag hs A {j with st:=.h (.aj ([s,0].map nv))} C .a))) .j
structure rY(g:GX)(B:BD):Prop where
 a:sA 60 B
 oK:∀r∈B.ag,m9 (rM g) false r=true
 b:∃h,IT h B.ag.length (B.ag.map (kP (rM g) false)) (B.aL.map mU) B.aB
 ck:∀q∈B.aL,CK B.ag.length q
 cd:∀q∈B.aL,∃d,q.d=Int.ofNat d/\d<20
def AN(r):aH (gS 5) (some r)=(gS 5).any λy=>y==r.op:=rfl
inductive Nl(g:GX)(mo:Nat)(ag:List Q4)(hs:List Nat)(i:Nat)(r:RD):Prop
 |mk (q:Q4) (e:Nat) (hq:ag[i]? =some q) (ro:uT mo hs i q r) (a:Good g q) (b:hs[i]? =some e) (c:(cY q.1).1<=e) (d:i+1<ag.length->hs[i+1]? =some (iU e q.1)) (h6:i<6)
inductive IY(hs:List Nat)(q:CT):Prop
 |mk (d:Nat) (s:q.s∈fw) (hd:q.d=Int.ofNat d) (s':(q.s==pJ)=false) (f:q.f<q.la) (la:q.la<=hs.length) (t:hs[q.t]? =some (d+1)) (c:∀p,q.f<=p->p<q.la->∀e,hs[p]? =some e->d<=e) (ht:q.t<hs.length)
def IY.elim{G:Prop}(h:IY hs q)(k:∀d,q.s∈fw->q.d=Int.ofNat d->(q.s==pJ)=false->q.f<q.la->q.la<=hs.length->hs[q.t]? =some (d+1)->(∀p,q.f<=p->p<q.la->∀e,hs[p]? =some e->d<=e)->q.t<hs.length->G):G:=by
 obtain⟨d,a,b,c,e,f,g,h,i⟩:=h;exact k d a b c e f g h i
def Dq{r:RD}{q:Q4}(P:Tx->AV->AV->AV->Prop)(B:r.op=q.1)(C:r.a=q.2.1)(A:r.b=q.2.2.1)(e4:r.c=q.2.2.2)(h:P q.1 q.2.1 q.2.2.1 q.2.2.2):P r.op r.a r.b r.c:=e4▸A▸C▸B▸h
def Dc{g:GX}(oJ:mo<=4){ag:List Q4}(L:Lay g ag hs)(E:A.length=ag.length)(hm:Made mo hs ag A)(hc:uX hs w)(hS:E_ hs S):f9 (λ(C:List CT)=>w= .aj (C.map CT.p)) (λ(C:List CT)=>rY g ⟨A,C,S⟩):=by
 have hn:=L.n;have I:=L.E
 have Mz:∀(i:Nat) r,A[i]? =some r->Nl g mo ag hs i r:=λi r F=>by
  refine bB λP0 U=>?_;obtain⟨q,R,B⟩:=hm i r F;obtain⟨a,e,b,c,d,-⟩:=L.pt i q R;exact U ⟨q,e,R,B,a,b,c,d,gZ (aS F) (zE hn E)⟩
 have O:∀r∈A,∃i,Nl g mo ag hs i r:=λr G=>D0 G λi hi=>⟨i,Mz i r hi⟩;have NP:∀{i q r},uT mo hs i q r->dB r=du q.1:=λB=>congrArg du B.op
 have V:∀{i q r},uT mo hs i q r->Good g q->du q.1=false->(r.op,r.a,r.b,r.c)∈BY/\m9 (rM g) false r=true:=λ{i q r} B H D=>by
  cases H with
  |j h=>exact absurd (D.symm.trans h) fO
  |n h=>exact Dq (λo a b c=>(o,a,b,c)∈BY/\m9 (rM g) false ⟨o,a,b,c,0⟩=true) B.op (B.a D) B.b B.c (d3 (jo.mp h).2 λh1 X=>⟨tJ h1,X⟩)
 have SN:∀r∈A,m9 (rM g) false r=true:=λr G=>by
  obtain⟨i,q,_,_,B,H⟩:=O r G;cases D:du q.1
  ·exact(V B H D).2
  ·exact congrArg (bif · then _ else _) ((NP B).trans D)
 have T9:∀r∈A,Gd A.length r:=λr G=>by
  obtain⟨i,q,_,_,B,H⟩:=O r G;refine⟨λz=>?_,λz=>?_⟩
  ·have D:=(NP B).symm.trans z;refine bB λP0 U=>?_;obtain⟨t,e,ea,M,-⟩:=B.j D
   have:b9 r=t:=by unfold b9;rw[ea];rfl
   refine U ?_;subst this
   cases H with
   |n h=>exact absurd ((gf.j h).symm.trans D) fO
   |j _ _ b=>exact⟨⟨ea,Cg M I E⟩,B.b.trans (congrArg Prod.fst b),B.c.trans (congrArg Prod.snd b)⟩
  ·have Tv:=nK z;have:=(V B H (by rw[<-B.op,Tv];kernel_rfl:du q.1=false)).1;rw[Tv]at this;rcases gM.mp this with m |m
   ·refine bZ m λx mx e=>?_
    have:(eT.map λx=> !(x.1==c5) || dP.any (aq 1 x.2.1))=eT.map tt:=by kernel_rfl
    have:=ax this x mx;rw[show x.1=c5 from congrArg Prod.fst e]at this;refine lu (show dP.any (aq 1 x.2.1)=true from this) λu mu eu=>?_;rw[show r.a=x.2.1 from(congrArg (λy:Q4=>y.2.1) e).symm];exact g9 1 _ _ eu▸mu
   ·obtain⟨x,mx,m⟩:=List.mem_flatMap.mp m;exact bZ m λu mu e=>(absurd (show bq=c5 from(g5 mx).symm.trans (congrArg (λy:Q4=>y.1) e)) (by decide))
 have FG:∀r,A.getLast? =some r->aH (gS 5) (some r)=true:=λr F=>by
  rw[List.getLast?_eq_getElem?]at F;obtain⟨q,e,R,B⟩:=Mz _ r F;rw[AN,B.op];refine L.last q ?_;rw[List.getLast?_eq_getElem?,<-E];exact R
 have Ot:∀s∈S,hs[s]? =some 0:=by
  cases hS with
  |dI=>exact cu.mpr ⟨L.h0,gy _⟩
  |two h=>exact cu.mpr ⟨h,cu.mpr ⟨L.h0,gy _⟩⟩
 have qL:S.length<=8/\S.isEmpty=false:=by cases hS<;>exact⟨iD rfl,rfl⟩
 obtain⟨C,ew,k,cl⟩:RU (λ(C:List CT)=>w= .aj (C.map CT.p)) (λ(C:List CT)=>(∀q∈C,IY hs q)) (λ(C:List CT)=>C.length<=4):=by
  cases hc with
  |j=>exact⟨[],rfl,gy _,da _⟩
  |dI q d s P s' f la t c=>exact⟨[q],rfl,cu.mpr ⟨⟨d,s,P,s',f,la,t,c,aS t⟩,gy _⟩,iD rfl⟩
 have QH:∀{q:CT} {d:Nat},hs[q.t]? =some (d+1)->d<=6:=λM=>az (Nat.le_of_succ_le (L.le _ _ M)) (az (fj (aS M)) (zE hn I))
 refine⟨C,ew,⟨(⟨by show A.length<=16;exact zT (zE hn E) rfl,T9,FG,λq N=>(k q N).elim λd J J J h1 X J J Z=>⟨Cg (az (fj h1) X) I E,Cg X I E,Cg Z I E⟩,λs ms=>Cg (aS (Ot s ms)) I E,cl,qL.1,(λr G=>by
  obtain⟨i,q,_,_,B,H⟩:=O r G;cases D:du q.1
  ·exact .inl (V B H D).1
  ·exact .inr ((T9 r G).e ((NP B).trans D)):∀r∈A,Al r)⟩:WF ⟨A,C,S⟩),λr G=>?_,λq N=>?_⟩,SN,⟨λi=>hs.getD i 0,?_⟩,λq N=>?_,λq N=>(k q N).elim λd J P J J J t J J=>⟨d,P,zT (eU (QH t)) rfl⟩⟩
 ·obtain⟨i,q,_,_,B,_,_,_,_,hi⟩:=O r G;exact⟨10*mo+i,zT (Nat.add_le_add (Nat.mul_le_mul_left 10 oJ) (fj hi)) rfl,B.l⟩
 ·exact(k q N).elim λd L7 P J J J t J J=>⟨L7,d,zT (QH t) rfl,P⟩
 ·have Q:∀{i e:Nat},hs[i]? =some e->hs.getD i 0=e:=λh=>by rw[kM,h];rfl
  have Oi:∀(p:Nat) v,(A.map (kP (rM g) false))[p]? =some v->f9 (λr=>A[p]? =some r) (λr=>v=kP (rM g) false r):=λp v h=>by
   rw[di]at h;refine pK h λr F bS=>?_;obtain rfl:=bS;exact⟨r,F,rfl⟩
  refine⟨cz _,λv mv=>?_,λp v h=>?_,λp v h D=>?_,λp v h Y=>?_,λq N=>?_,λs ms=>?_,qL.2⟩
  ·refine bZ mv λr G bS=>?_;obtain rfl:=bS;exact SN r G
  ·refine bB λP0 U=>?_;obtain⟨r,F,rfl⟩:=Oi p v h;obtain⟨q,e,R,B,H,Y,W⟩:=Mz p r F;refine U ?_
   show(cY r.op).1<=hs.getD p 0
   rw[Q Y,B.op];exact W
  ·obtain⟨r,F,rfl⟩:=Oi p v h;obtain⟨q,e,R,B,H,Y,W⟩:=Mz p r F;have D:dB r=true:=D;obtain⟨t,e',ea,M,HK,et⟩:=B.j ((NP B).symm.trans D);cases Y.symm.trans HK
   show(bif dB r then b9 r else 0)<A.length/\hs.getD (bif dB r then b9 r else 0) 0=hs.getD p 0-(cY r.op).1+(cY r.op).2
   rw[D,cond_true,(by unfold b9;rw[ea];rfl:b9 r=t),Q Y,Q et,B.op];exact⟨Cg M I E,rfl⟩
  ·obtain⟨r,F,rfl⟩:=Oi p v h;obtain⟨q,e,R,B,H,Xn,W,Xc⟩:=Mz p r F
   have hp:p+1<ag.length:=by
    exact Nat.lt_of_le_of_ne (aS R) λz=>(absurd ((Y:aH (gS 5) (some r)=false).symm.trans (FG r (by rw[List.getLast?_eq_getElem?,E,<-z,Nat.add_sub_cancel];exact F))) fO)
   show p+1<A.length/\hs.getD (p+1) 0=hs.getD p 0-(cY r.op).1+(cY r.op).2;rw[Q Xn,Q (Xc hp),B.op];exact⟨zR hp E,rfl⟩
  ·refine bB λP0 U=>?_;refine bZ N λc mc bS=>?_;obtain rfl:=bS;obtain⟨d,-,P,h1,X,Z,h4,h5,M⟩:=k c mc
   have ed:c.d.toNat=d:=by rw[P];rfl
   refine U (⟨congrArg (!·) h1,Cg M I E,?_,λp yj Jo=>?_⟩)
   ·show hs.getD c.t 0=c.d.toNat+1;rw[Q h4,ed]
   ·show c.d.toNat<=hs.getD p 0;have Jo:p<c.la:=Jo;have:=ij (show p<hs.length from gZ Jo Z);rw[ed,Q this];exact h5 p yj Jo _ this
  ·exact⟨Cg (aS (Ot s ms)) I E,Q (Ot s ms)⟩
 ·exact(k q N).elim λd h0 P J X Z h4 J M=>⟨h0,X,Cg Z I E,Cg M I E,d,zT (QH h4) rfl,P⟩
section
variable {n:Nat}{ah env1 env2:List SV}
def mB(h:H3 GP (aa GP n) e ah= .oK (v,env1))(hs:o8 GP (aa GP n) es env1= .oK (vs,env2)):o8 GP (aa GP n) (e::es) ah= .oK (v::vs,env2):=by
 show(H3 GP (aa GP n) e ah).i _=_
 rw[h]
 show(o8 GP (aa GP n) es env1).i _=_
 rw[hs];rfl
def FY(h:ev GP (aa GP n) e ah= .oK (v,env1)):H3 GP (aa GP n) (none,e) ah= .oK (.v v,env1):=by
 show(ev GP (aa GP n) e ah).i _=_
 rw[h];rfl
end
def sP(kd:Tx):List Tx:=bif kd==aP then [⟨#[113]⟩,⟨#[116]⟩]else [⟨#[112]⟩,⟨#[113]⟩,⟨#[116]⟩]
def KZ(n:Nat)(g:GX)(mo w:Nat)(K:AV)(b:mK)(ag:List Q4)(hs:List Nat)(A:List RD)(j:Nn)(C:SV):([aP,a_].map λkd=>eG GP (aa GP n) (bk 73 7) (bP g kd mo w K b (nr ag hs A j C .a)))=[aP,a_].map λkd=>.oK (.a,bP g kd mo w K b (nr ag hs A j C (.h (.aj ((sP kd).map .j))))):=by kernel_rfl
def Pd:∀i∈[3,4],∀v∈uZ i,∃y∈df,v= .j y:=by
 intro i B v C;exact lu (ax (ax (by kernel_rfl:([3,4].map λi=>(uZ i).map λv=>df.any λy=>aq 1 v (.j y))=[3,4].map λi=>(uZ i).map tt) i B) v C) λy A e=>(⟨y,A,g9 1 _ _ e⟩)
def C7:∀kd∈[aP,a_],∀y∈sP kd,y∈df:=by
 exact λkd B y A=>of_decide_eq_true (ax (ax (by kernel_rfl:([aP,a_].map λkd=>(sP kd).map λy=>decide (y∈df))=[aP,a_].map λkd=>(sP kd).map tt) kd B) y A)
def fc(p:HP)(B:BD)(K:AV):SV:=.e 1 [.v (.j p.f),.v (.j p.name),.v (.j p.params),.v (.aj (p.slots.map .j)),.o (B.ag.map RD.p),.v (.aj (B.aL.map CT.p)),.v (.aj (B.aB.map nv)),.v K]
inductive Ux(g:GX)(mo:Nat)(kd:Tx)(K:AV):SV->Prop
 |mk (p:HP) (B:BD) (hk:p.f=kd) (hp:yR p) (sl:p.slots=sP kd) (s:rY g B) (two:mo=4->2<=B.ag.length):Ux g mo kd K (fc p B K)
def Av(k:Nat)(A:i∈[3,4])(D:BX (1+M) b):kO (λb' y=>BX M b') (λb' y=>y∈df) (λb' y=>ev GP (aa GP (k+4)) (.k 58 [0] [.d (.m (Int.ofNat i))]) (bP g kd mo w K b t)= .oK (.j y,bP g kd mo w K b' t)):=by
 refine bB λG C=>?_;obtain⟨b',v,B,F,e⟩:=wC k g 58 [nv i] _ (ax (by kernel_rfl:([3,4].map λi=>N5 58 [nv i])=[3,4].map λi=>some (1,uZ i)) i A) M b D;obtain⟨y,E,rfl⟩:=Pd i A v F;exact C (⟨b',y,B,E,fU (b:=b) (r:=(bP g kd mo w K b t).tail) (es:=[.d (.m (Int.ofNat i))]) (.u .d .j) e⟩)
def Xs.F(h:eG GP (aa GP n) (.F es) ah= .oK (.C v,env1)):Xs n ah [.F es] (.oK (.C v,env1)):=by
 show(eG GP (aa GP n) (.F es) ah).i _=_
 rw[h];rfl
def Bg(h:o8 GP (aa GP n) es ah= .oK (l,env1)):eG GP (aa GP n) (.F es) ah= .oK (.C (.e 1 l),env1):=by
 show(o8 GP (aa GP n) es ah).i _=_
 rw[h];rfl
def K9(n:Nat)(g:GX)(kd:Tx)(mo w:Nat)(K:AV)(M O N:mK)(a5 a6 a7 a8 a9:SV)(L:List AV)(st:AV)(G D F H I B:SV)(C A:AV)(E:SV)(nm P:Tx)(Q:ev GP (aa GP n) (.k 58 [0] [.d (.m (Int.ofNat 3))]) (bP g kd mo w K M [a5,a6,a7,a8,a9,.aj L,.h st,G,D,F,H,I,B,.h C,.h A,E])= .oK (.j nm,bP g kd mo w K O [a5,a6,a7,a8,a9,.aj L,.h st,G,D,F,H,I,B,.h C,.h A,E]))(e9:ev GP (aa GP n) (.k 58 [0] [.d (.m (Int.ofNat 4))]) (bP g kd mo w K O [a5,a6,a7,a8,a9,.aj L,.h st,G,D,F,H,I,B,.h C,.h A,E])= .oK (.j P,bP g kd mo w K N [a5,a6,a7,a8,a9,.aj L,.h st,G,D,F,H,I,B,.h C,.h A,E])):eG GP (aa GP n) (bk 73 8) (bP g kd mo w K M [a5,a6,a7,a8,a9,.aj L,.h st,G,D,F,H,I,B,.h C,.h A,E])= .oK (.C (.e 1 [.v (.j kd),.v (.j nm),.v (.j P),.v A,.o L,.v C,.v st,.v K]),bP g kd mo w K N [a5,a6,a7,a8,a9,.a,.h st,G,D,F,H,I,B,.h C,.h A,E]):=by
 exact Bg (mB (by kernel_rfl:H3 GP (aa GP n) (none,.r 1) (bP g kd mo w K M [a5,a6,a7,a8,a9,.aj L,.h st,G,D,F,H,I,B,.h C,.h A,E])= .oK (.v (.j kd),bP g kd mo w K M [a5,a6,a7,a8,a9,.aj L,.h st,G,D,F,H,I,B,.h C,.h A,E])) (mB (FY Q) (mB (FY e9) (by kernel_rfl:o8 GP (aa GP n) [(none,.r 19),(some 10,.d .r),(none,.r 18),(none,.r 11),(none,.r 4)] (bP g kd mo w K N [a5,a6,a7,a8,a9,.aj L,.h st,G,D,F,H,I,B,.h C,.h A,E])= .oK ([.v A,.o L,.v C,.v st,.v K],bP g kd mo w K N [a5,a6,a7,a8,a9,.a,.h st,G,D,F,H,I,B,.h C,.h A,E])))))
def AG(B:kd∈[aP,a_]){l:List Tx}(h1:aP∈l)(A:a_∈l):kd∈l:=by
 rcases iZ.mp B with rfl |m
 ·exact h1
 ·exact dN.mp m▸A
def C8(kd):(sP kd).length<=3:=by
 unfold sP;cases kd==aP
 ·exact fh 3
 ·exact Nat.le_succ 2
def sU(k)(mg:g∈fW){kd:Tx}(I:kd∈[aP,a_])(O:mo<=4)(hw:w<11)(K)(s:BX (60+M) b):kO (λb' v=>BX M b') (λb' v=>Ux g mo kd K v) (λb' v=>aa GP (k+13) 73 [bx b g,.h (.j kd),.h (nv mo),.h (nv w),.h K]= .oK (v,[bx b' g])):=by
 refine bB λP0 X=>?_;obtain⟨F,B,D,d,x,y,fC,L,N,u⟩:=AE k mg (kd:=kd) O hw (K:=K) (M:=26+M) (s.le (zL rfl));obtain⟨E,A,Z,j,Y,W,hm,f,sj,e4⟩:=Aw (k+8) (kd:=kd) (w:=w) O (K:=K) L B 0 (λt=>by rw[Nat.zero_add]) (Nat.zero_add _) [] (.aj (D.map nv)) ⟨d,x,y,.h (.aj [nv 0]),.a,.a,.a,.a,.a,.a⟩ (20+M) F rfl (λt r h=>by cases h) (.head _) (fC.le (az (qb (L.n) _) (zL rfl)));obtain⟨R,U,u3,m,e5⟩:=uB (k+8) L (15+M) E (Y.le (zL rfl))
 have s5:Ex (k+12) (bP g kd mo w K E (jF B Z A j)) (bk 73 5) (bP g kd mo w K R (nr B D A j (.h U) .a)):=by
  show(((bu GP (aa GP (k+12)) [.r 6] (bP g kd mo w K E (jF B Z A j))).i _).i _).i _=_
  rw[(Su (n:=k+12) (g:=g) (kd:=kd) (mo:=mo) (w:=w) (K:=K) (b:=E) (ag:=B) (A:=A) (j:=j) (hs:=D) (es:=[]) rfl Z f)]
  show((((aa GP (k+12) 72 [bx E g,.h (.aj (D.map nv))]).i _).i _).i _).i _=_
  rw[show aa GP (k+12) 72 [bx E g,.h (.aj (D.map nv))]=_ from e5];rfl
 obtain⟨G,S,Mv,hS,s6⟩:=xW (k+8) (kd:=kd) (mo:=mo) (w:=w) (K:=K) L A j (.h U) sj (M:=13+M) (b:=R) (u3.le (zL rfl));obtain⟨C,rfl,sb⟩:=Dc O L W hm m hS;obtain⟨V,H,Mu,l,e8⟩:=Av (k+8) (kd:=kd) (mo:=mo) (w:=w) (K:=K) (i:=3) (t:=nr B D A {j with st:=.h (.aj (S.map nv))} (.h (.aj (C.map CT.p))) (.h (.aj ((sP kd).map .j)))) (.head _) (M:=1+M) (b:=G) (Mv.le (zL rfl));obtain⟨P,Q,e,mp,e9⟩:=Av (k+8) (kd:=kd) (mo:=mo) (w:=w) (K:=K) (i:=4) (t:=nr B D A {j with st:=.h (.aj (S.map nv))} (.h (.aj (C.map CT.p))) (.h (.aj ((sP kd).map .j)))) (.tail _ (.head _)) (M:=M) (b:=V) (Mu.le (fh _));refine X (⟨P,_,e,.mk ⟨kd,H,Q,sP kd⟩ ⟨A,C,S⟩ rfl ⟨?_,?_,?_⟩ rfl sb (λz=>W▸N z),aO (fl:=.C (fc ⟨kd,H,Q,sP kd⟩ ⟨A,C,S⟩ K)) (env1:=(bP g kd mo w K P (nr B D A {j with st:=.h (.aj (S.map nv))} (.h (.aj (C.map CT.p))) (.h (.aj ((sP kd).map .j))))).set 10 .a) rfl rfl (Xs.I (l1:=[bk 73 0,bk 73 1,bk 73 2]) u (.u (rfl:Ex (k+12) (bP g kd mo w K F (je B D d x y)) (bk 73 3) (bP g kd mo w K F (.aj (B.map r4)::.aj (D.map nv)::.h (nv d)::x::y::.aj []::.h (.aj [nv 0])::.a::.a::.a::.a::.a::.a::.a::.a::.a::[]))) (.u (HY (env0:=bP g kd mo w K F (jF B (.aj (D.map nv)) [] ⟨d,x,y,.h (.aj [nv 0]),.a,.a,.a,.a,.a,.a⟩)) (EV.a rfl .j) (congrArg some (Bn B 0)) e4:Ex (k+12) (bP g kd mo w K F (.aj (B.map r4)::.aj (D.map nv)::.h (nv d)::x::y::.aj []::.h (.aj [nv 0])::.a::.a::.a::.a::.a::.a::.a::.a::.a::[])) (bk 73 4) (bP g kd mo w K E (jF B Z A j))) (.u s5 (.u s6 (.u (ax (KZ (k+12) g mo w K G B D A {j with st:=.h (.aj (S.map nv))} (.h (.aj (C.map CT.p)))) kd I:Ex (k+12) (bP g kd mo w K G (nr B D A {j with st:=.h (.aj (S.map nv))} (.h (.aj (C.map CT.p))) .a)) (bk 73 7) _) ?_)))))) ?_⟩)
 ·exact AG I (.head _) (.tail _ (.head _))
 ·exact cu.mpr ⟨l,cu.mpr ⟨mp,C7 kd I⟩⟩
 ·exact C8 kd
 ·exact Xs.F (K9 (k+12) g kd mo w K G V P (.h (.aj (B.map r4))) (.h (.aj (D.map nv))) (.h (nv j.d)) j.x j.y (A.map RD.p) (.aj (S.map nv)) j.p j.q j.o j.a j.b j.c (.aj (C.map CT.p)) (.aj ((sP kd).map .j)) .a H Q e8 e9)
 ·rfl
noncomputable def gT:GX:=⟨false,0,1⟩
structure eJ(x:CX)(p:HP)(B:BD):Prop where
 h:yR p
 f:p.f∈[a_,bT]
 sl:p.slots=sP a_
 b:sA 60 B
 bF:∀r∈B.ag,m9 x false r=false->x=⟨[3],2⟩/\∃q∈jc,∃l,r=⟨q.1,q.2.1,q.2.2,.r,l⟩
 ck:∀q∈B.aL,CK B.ag.length q
def ja:List Q3:=[bar ip (nv 5),(gD,nv 0,nv 7),(gC,nv 1,nv 0),bar bT (nv 9),bar bT (nv 1),bar fm .r,bar fX .r,bar dQ .r]
def q4(q:Q3):Q4:=(q.1,q.2.1,q.2.2,.r)
def F8(q:Q3):Bool:=ru eT q&&(!du q.1&&(!(q.1==c5)&&(rl ⟨[3],2⟩ false q || ru jc q)))
def M1:∀q∈ja,F8 q=true:=by
 exact ax (by kernel_rfl:ja.map F8=ja.map tt)
def Gd.of(h1:dB r=false)(A:(r.op==c5)=false):Gd n r:=⟨λz=>absurd (h1.symm.trans z) fO,λz=>by
 rw[nK z]at A
 exact absurd (A.symm.trans (beq_self_eq_true c5)) fO⟩
def eJ.row(t:eJ ⟨[3],2⟩ p B)(hs:s+1<B.ag.length)(m:q∈ja)(N:Li 60 l):eJ ⟨[3],2⟩ p {B with ag:=B.ag.set s ⟨q.1,q.2.1,q.2.2,.r,l⟩}:=by
 refine bB λR L=>?_;refine d3 (M1 q m) λH h=>?_;refine d3 h λG h=>?_;refine d3 h λF Q=>?_;have H:=eE H
 have G:du q.1=false:=by cases e:du q.1;rfl;rw[e]at G;cases G
 have F:(q.1==c5)=false:=by cases e:q.1==c5;rfl;rw[e]at F;cases F
 have C:(B.ag.set s ⟨q.1,q.2.1,q.2.2,.r,l⟩).length=B.ag.length:=eI;have w:=t.b.wf;have A:∀{P:RD->Prop},(∀r∈B.ag,P r)->P ⟨q.1,q.2.1,q.2.2,.r,l⟩->∀r∈B.ag.set s ⟨q.1,q.2.1,q.2.2,.r,l⟩,P r:=λO M r I=>(List.mem_or_eq_of_mem_set I).elim (O r) λe=>e▸M;refine L (⟨t.h,t.f,t.sl,⟨⟨C▸w.E,?_,λr E=>?_,λc D=>C▸w.aL c D,λc D=>C▸w.aB c D,w.g,w.qL,A w.al (.inl (pq _ (List.mem_map.mpr ⟨q,H,rfl⟩)))⟩,A t.b.ln N,t.b.cs⟩,A t.bF λz=>⟨rfl,q,?_,l,rfl⟩,λc D=>C▸t.ck c D⟩)
 ·exact A (λr I=>C▸w.ag r I) (.of G F)
 ·rw[List.getLast?_eq_getElem?]at E;have E:(B.ag.set s ⟨q.1,q.2.1,q.2.2,.r,l⟩)[(B.ag.set s ⟨q.1,q.2.1,q.2.2,.r,l⟩).length-1]? =some r:=E;rw[C,List.getElem?_set,if_neg (Nat.ne_of_lt (Nat.lt_sub_of_add_lt hs))]at E;exact w.last r (by rw[List.getLast?_eq_getElem?];exact E)
 ·have z:=(iP H).symm.trans z;rcases Bool.or_eq_true_iff.mp Q with h |h
  ·exact absurd (z.symm.trans h) fO
  ·exact eE h
def eJ.cat(t:eJ ⟨[3],2⟩ p B)(m:q∈B.aL)(A)(h:A={q with s:=pJ}\/∃d,q.d=Int.ofNat d/\d<20/\A={q with d:=q.d+1}):eJ ⟨[3],2⟩ p {B with aL:=[A]}:=by
 have w:=t.b.wf;have c:=t.ck q m
 obtain⟨E,F,D,C,G⟩:=(by
  rcases h with rfl |⟨d,e,l,rfl⟩
  ·exact⟨.tail _ (.tail _ (.head _)),c.d,rfl,rfl,rfl⟩
  ·exact⟨c.s,⟨d+1,l,by show q.d+1=_;rw[e];rfl⟩,rfl,rfl,rfl⟩:A.s∈fw/\Li 20 A.d/\A.f=q.f/\A.la=q.la/\A.t=q.t)
 exact⟨t.h,t.f,t.sl,⟨⟨w.E,w.ag,w.last,cu.mpr ⟨by rw[D,C,G];exact w.aL q m,gy _⟩,w.aB,iD rfl,w.qL,w.al⟩,t.b.ln,cu.mpr ⟨⟨E,F⟩,gy _⟩⟩,t.bF,cu.mpr ⟨⟨E,D▸C▸c.f,C▸c.la,G▸c.t,F⟩,gy _⟩⟩
def eJ.a(t:eJ x p B):eJ x p {B with aB:=[]}:=by
 have w:=t.b.wf;exact⟨t.h,t.f,t.sl,⟨⟨w.E,w.ag,w.last,w.aL,gy _,w.g,da _,w.al⟩,t.b.ln,t.b.cs⟩,t.bF,t.ck⟩
def eJ.lam(t:eJ x p B):eJ x {p with f:=bT} B:=⟨⟨.tail _ (.tail _ (.head _)),t.h.nm,t.h.sl⟩,.tail _ (.head _),t.sl,t.b,t.bF,t.ck⟩
def NF(p:HP)(B:BD)(K:AV)(b:mK)(t:List SV):List SV:=bx b gT::fc p B K::t
noncomputable def kW:List SV:=[.a,.a,.a,.a,.a,.a,.a,.a,.a]
def iB:AV:=.aj (ja.map λq=>r4 (q4 q))
def Vt(k:Nat)(S:SV)(b:SV)(x y:AV):aG GP (aa GP (k+1)) [bk 74 1,bk 74 2] (b::S::.h x::.h y::.a::kW)= .oK (.a,b::S::.h x::.h y::.h iB::kW):=by kernel_rfl
def Yh:List IS×List IS:=match bk 74 3 with
 |.d _ b c=>(b,c)
 |_ =>([],[])
def WC(n:Nat)(S b:SV)(y:SV)(t:List SV):((List.range 10).map λw=>ev GP (aa GP n) (.I (.r 2) [.lt] [.i 8]) (b::S::.h (nv w)::y::t))=(List.range 10).map λw=>.oK (bv (w.blt 8),b::S::.h (nv w)::y::t):=by kernel_rfl
def M8(n:Nat)(S b:SV)(y:SV):((List.range 8).map λw=>eG GP (aa GP n) (.r [5,6,7,8] (.x [.r 4,.r 2])) (b::S::.h (nv w)::y::.h iB::kW))=(List.range 8).map λw=>.oK (.a,b::S::.h (nv w)::y::.h iB::.h (.j (ja.getD w (fX,.r,.r)).1)::.h (ja.getD w (fX,.r,.r)).2.1::.h (ja.getD w (fX,.r,.r)).2.2::.h .r::[.a,.a,.a,.a,.a]):=by kernel_rfl
def J3(n){q:Q3}(hs:s<B.ag.length):Ex n (NF p B K b (.h w::.h (nv s)::V::.h (.j q.1)::.h q.2.1::.h q.2.2::.h .r::u)) (.set 1 (some (1,4)) (.r 3) (.u [.r 5,.r 6,.r 7,.r 8,.x [.at 1 (some (1,4)) (.r 3),.i 4]])) (NF p {B with ag:=B.ag.set s ⟨q.1,q.2.1,q.2.2,.r,(B.ag[s]'hs).l⟩} K b (.h w::.h (nv s)::V::.h (.j q.1)::.h q.2.1::.h q.2.2::.h .r::u)):=by
 show(ev GP (aa GP n) (.op .tup _) _).i _=_
 rw[show ev GP (aa GP n) (.op .tup _) _=_ from(.op (.u (.H rfl) (.u (.H rfl) (.u (.H rfl) (.u (.H rfl) (.u (.y (w:=.m (B.ag[s]).l) (by
  show(aD.d ((b_ (B.ag.map RD.p).length (Int.ofNat s)).bind λk=>(B.ag.map RD.p)[k]?)).i _=_
  rw[qC (by rw[di,ij hs];rfl:(B.ag.map RD.p)[s]? =some (RD.p B.ag[s]))];rfl:Ev n (NF p B K b (.h w::.h (nv s)::V::.h (.j q.1)::.h q.2.1::.h q.2.2::.h .r::u)) (.at 1 (some (1,4)) (.r 3)) (RD.p B.ag[s])) .d rfl) .j))))) rfl:Ev n (NF p B K b (.h w::.h (nv s)::V::.h (.j q.1)::.h q.2.1::.h q.2.2::.h .r::u)) (.u [.r 5,.r 6,.r 7,.r 8,.x [.at 1 (some (1,4)) (.r 3),.i 4]]) (RD.p ⟨q.1,q.2.1,q.2.2,.r,(B.ag[s]'hs).l⟩))]
 show((aD.d (b_ (B.ag.map RD.p).length (Int.ofNat s))).i _).i _=_
 unfold b_;rw[if_pos (show 0<=Int.ofNat s from Int.natCast_nonneg s),if_pos (show(Int.ofNat s).toNat<(B.ag.map RD.p).length by rw[cz];exact hs)];show aD.oK (Fl.a,bx b gT::SV.e 1 [_,_,_,_,.o ((B.ag.map RD.p).set s _),_,_,_]::_)=_;rw[show(B.ag.map RD.p).set s (RD.p ⟨q.1,q.2.1,q.2.2,.r,(B.ag[s]'hs).l⟩)=(B.ag.set s ⟨q.1,q.2.1,q.2.2,.r,(B.ag[s]'hs).l⟩).map RD.p from(List.map_set (f:=RD.p)).symm];rfl
def um(B:ev GP (aa GP n) c ah= .oK (v,env1))(A:hZ GP o [v]=some w):ev GP (aa GP n) (.op o [c]) ah= .oK (w,env1):=by
 show(bu GP (aa GP n) [c] ah).i _=_
 rw[(by
  show(ev GP (aa GP n) c ah).i _=_
  rw[B];rfl:bu GP (aa GP n) [c] ah= .oK ([v],env1))]
 show(aD.d (hZ GP o [v])).i _=_
 rw[A];rfl
def DM{C:List CT}(h:∀q∈C,q.s∈fw):d_ .ne (.aj (C.map CT.p)) (.aj [])=some (!C.isEmpty):=by
 obtain⟨A,e,l⟩:=(by
  induction C with
  |nil=>exact⟨[],rfl,rfl⟩
  |cons q C B=>
   obtain⟨A,e,l⟩:=B λy m=>h y (.tail _ m);refine⟨.tuple [i9 (.j q.s),.int (Int.ofNat q.f),.int (Int.ofNat q.la),.int (Int.ofNat q.t),.int q.d]::A,?_,congrArg (· +1) l⟩
   show(CT.p q).data.bind _=_
   rw[(by
    show(cb [.j q.s,nv q.f,nv q.la,nv q.t,.m q.d]).bind _=_
    rw[gw (rf q.s (iI _ (pq _ (h q (.head _))))) (show cb [nv q.f,nv q.la,nv q.t,.m q.d]=some [.int (Int.ofNat q.f),.int (Int.ofNat q.la),.int (Int.ofNat q.t),.int q.d]from rfl)];rfl:(CT.p q).data=some (.tuple [i9 (.j q.s),.int (Int.ofNat q.f),.int (Int.ofNat q.la),.int (Int.ofNat q.t),.int q.d]))]
   show(cb (C.map CT.p)).map _=_
   rw[e];rfl:∃A,cb (C.map CT.p)=some A/\A.length=C.length)
 show(((cb (C.map CT.p)).bind _).bind _).map _=_
 rw[e];show Option.map _ (if min (PyData.list A).depth (PyData.list []).depth<=50 then some (PyData.eqvAll A [])else none)=_;rw[if_pos (az (Nat.min_le_right _ _) (by decide))]
 induction C using cF with
 |nil=>cases List.length_eq_zero_iff.mp l;rfl
 |cons q C=>
  induction A using cF with
  |nil=>cases l
  |cons x A=>rfl
def n6(n:Nat)(b:SV)(p:HP)(B:BD)(K:AV)(t:List SV):eG GP (aa GP n) (.G 1 6 (.l [])) (b::fc p B K::t)= .oK (.a,b::fc p {B with aB:=[]} K::t):=by kernel_rfl
def n0(n:Nat)(b:SV)(p:HP)(B:BD)(K:AV)(t:List SV):eG GP (aa GP n) (.G 1 0 (.t bT)) (b::fc p B K::t)= .oK (.a,b::fc {p with f:=bT} B K::t):=by kernel_rfl
def tC:IE:=.and [.q (.r 2) (.i 8),.I (.H 1 (some (1,5))) [.ne] [.l []]]
def JK(n:Nat)(b)(p)(B)(K)(y)(t)(h:∀q∈B.aL,q.s∈fw):∀w∈[8,9],Ev n (b::fc p B K::.h (nv w)::y::t) tC (bv (w==8&& !B.aL.isEmpty)):=by
 have e:Ev n (b::fc p B K::.h (nv 8)::y::t) (.I (.H 1 (some (1,5))) [.ne] [.l []]) (bv (!B.aL.isEmpty)):=.I (u:=.aj (B.aL.map CT.p)) (v:=.aj []) rfl (.op .j rfl) (DM h);exact cu.mpr ⟨(.U (.and (.I (u:=nv 8) (v:=nv 8) (.H rfl) .d rfl) λj=>.dI e)),cu.mpr ⟨(.U (.and (.I (u:=nv 9) (v:=nv 8) (.H rfl) .d rfl) λz=>by cases z)),gy _⟩⟩
def JM(n)(b S)(y)(t):∀w∈[8,9],Ev n (b::S::.h (nv w)::y::t) (.q (.r 2) (.i 8)) (bv (w==8)):=cu.mpr ⟨.I (u:=nv 8) (v:=nv 8) (.H rfl) .d rfl,cu.mpr ⟨.I (u:=nv 9) (v:=nv 8) (.H rfl) .d rfl,gy _⟩⟩
def Il(k:Nat)(S:B.aL=q::C)(L:q.d=Int.ofNat d)(P:d<20)(y:SV)(N:BX (1+M) b):IW (λb' A t=>BX M b') (λb' A t=>(A={q with s:=pJ}\/∃d,q.d=Int.ofNat d/\d<20/\A={q with d:=q.d+1})) (λb' A t=>Xs (k+2) (bx b gT::fc p B K::.h (nv 8)::y::.h iB::kW) (match Yh.2 with |[.d _ b _]=>b |_ =>[]) (.oK (.a,bx b' gT::fc p {B with aL:=[A]} K::t))):=by
 refine bB λU F=>?_;obtain⟨E,r,I,R,H⟩:=bU (k+1) gT (m:=2) (by decide) (by decide) N
 obtain⟨A,O,Q⟩:f9 (λA=>(A={q with s:=pJ}\/∃d,q.d=Int.ofNat d/\d<20/\A={q with d:=q.d+1})) (λA=>hZ GP .Q [.aj [CT.p {q with s:=pJ},CT.p {q with d:=q.d+1}],nv r]=some (CT.p A)):=by
  obtain rfl |rfl:=Mine.Gj R
  ·exact⟨_,.inl rfl,rfl⟩
  ·exact⟨_,.inr ⟨d,L,P,rfl⟩,rfl⟩
 refine F ?_
 exact⟨E,A,_,I,O,Xs.u (.r (v:=CT.p q) (.y (v:=.aj (B.aL.map CT.p)) (v':=nv 0) rfl .d (by rw[S];rfl)) (by kernel_rfl):Ex (k+2) (bx b gT::fc p B K::.h (nv 8)::y::.h iB::kW) (.r [9,10,11,12,13] (.x [.H 1 (some (1,5)),.i 0])) (bx b gT::fc p B K::.h (nv 8)::y::.h iB::.a::.a::.a::.a::.h (.j q.s)::.h (nv q.f)::.h (nv q.la)::.h (nv q.t)::.h (.m q.d)::[])) (Xs.u ((λe D t h=>by
  show(ev GP (aa GP (k+2)) e D).i _=_
  rw[h];rfl:∀(e:IE) (D:List SV) (t:List SV),ev GP (aa GP (k+2)) e D= .oK (.aj [CT.p A],bx E gT::fc p B K::t)->eG GP (aa GP (k+2)) (.G 1 5 e) D= .oK (.a,bx E gT::fc p {B with aL:=[A]} K::t)) _ _ _ (um (o:=.aj) (jJ (o:=.Q) (by kernel_rfl:ev GP (aa GP (k+2)) (.l [.u [.t pJ,.r 10,.r 11,.r 12,.r 13],.u [.r 9,.r 10,.r 11,.r 12,.p [.r 13,.i 1]]]) (bx b gT::fc p B K::.h (nv 8)::y::.h iB::.a::.a::.a::.a::.h (.j q.s)::.h (nv q.f)::.h (nv q.la)::.h (nv q.t)::.h (.m q.d)::[])= .oK (.aj [CT.p {q with s:=pJ},CT.p {q with d:=q.d+1}],bx b gT::fc p B K::.h (nv 8)::y::.h iB::.a::.a::.a::.a::.h (.j q.s)::.h (nv q.f)::.h (nv q.la)::.h (nv q.t)::.h (.m q.d)::[])) (fU (b:=b) (es:=[.i 2]) (vs:=[nv 2]) (.u .d .j) H) Q) rfl)) .j)⟩
def Iv(k)(t:eJ ⟨[3],2⟩ p B)(cd:∀q∈B.aL,∃d,q.d=Int.ofNat d/\d<20)(j:w<10)(hs:s+1<B.ag.length)(E:BX (1+M) b):IV (λb' H G u=>BX M b') (λb' H G u=>eJ ⟨[3],2⟩ H G) (λb' H G u=>eG GP (aa GP (k+2)) (bk 74 3) (bx b gT::fc p B K::.h (nv w)::.h (nv s)::.h iB::kW)= .oK (.a,bx b' gT::fc H G K::u)):=by
 have T:=ax (WC (k+2) (fc p B K) (bx b gT) (.h (nv s)) (.h iB::kW)) w (List.mem_range.mpr j);have Q:=λq m=>(t.b.cs q m).1;cases c:w.blt 8
 ·rw[c]at T
  have I:w∈[8,9]:=by
   have W:¬w<8:=λz=>absurd (Nat.blt_eq.mpr z) (by rw[c];exact fO);rcases((by decide:∀w,w<10->¬w<8->w=8\/w=9) w ‹_› W)with h |h
   ·exact h▸.head _
   ·exact h▸.tail _ (.head _)
  have A:=JK (k+2) (bx b gT) p B K (.h (nv s)) (.h iB::kW) Q w I;have D:=JM (k+2) (bx b gT) (fc p B K) (.h (nv s)) (.h iB::kW) w I;cases e8:w==8
  ·rw[e8]at A D;exact⟨b,{p with f:=bT},B,_,E.le (gY _ _),t.lam,Ex.z T (.u (.z A (.u (.z D (.u (n0 (k+2) _ p B K _) .j)) .j)) .j)⟩
  ·rw[e8]at A D
   induction hC:B.aL using cF with
   |nil=>
    rw[hC]at A;exact⟨b,p,{B with aB:=[]},_,E.le (gY _ _),t.a,Ex.z T (.u (.z A (.u (.z D (.u (n6 (k+2) _ p B K _) .j)) .j)) .j)⟩
   |cons q C=>
    rw[hC]at A;refine bB λy P=>?_;have F:q∈B.aL:=hC▸.head _;obtain⟨d,X,Y⟩:=cd q F;obtain⟨b',L,u,R,S,x⟩:=Il k (p:=p) (K:=K) hC X Y (.h (nv s)) E;rw[<-eq_of_beq e8]at x;exact P (⟨b',p,{B with aL:=[L]},u,R,t.cat F L S,Ex.z T (.u (.z A x) .j)⟩)
 ·rw[c]at T;have O:w<8:=Nat.blt_eq.mp c;have N:s<B.ag.length:=Nat.lt_of_succ_lt hs
  have F:ja.getD w (fX,.r,.r)∈ja:=by
   rw[kM,ij (show w<ja.length from O)];exact List.getElem_mem _
  have Z:=ax (M8 (k+2) (fc p B K) (bx b gT) (.h (nv s))) w (List.mem_range.mpr O);have U:=J3 (k+2) (p:=p) (B:=B) (K:=K) (b:=b) (w:=nv w) (V:=.h iB) (q:=ja.getD w (fX,.r,.r)) (u:=[.a,.a,.a,.a,.a]) N;exact⟨b,p,_,_,E.le (gY _ _),t.row hs F (t.b.ln _ (List.getElem_mem N)),Ex.z T (.u Z (.u U .j))⟩
def EW(k)(t:eJ ⟨[3],2⟩ p B)(D:2<=B.ag.length)(cd:∀q∈B.aL,∃d,q.d=Int.ofNat d/\d<20)(P:BX (3+M) b):IW (λb' C A=>BX M b') (λb' C A=>eJ ⟨[3],2⟩ C A) (λb' C A=>aa GP (k+3) 74 [bx b gT,fc p B K]= .oK (.h .r,[bx b' gT,fc C A K])):=by
 refine bB λX H=>?_;obtain⟨E,w,R,V,N⟩:=bU (k+1) gT (m:=10) (by decide) (by decide) (show BX (1+(2+M)) b from P.le (zL rfl));obtain⟨I,s,L,O,Q⟩:=bU (k+1) gT (m:=B.ag.length-1) (Nat.sub_pos_of_lt D) (eV (az (Nat.sub_le _ _) (t.b.wf.E:B.ag.length<=16)) (by decide)) (show BX (1+(1+M)) E from R.le (zL rfl))
 have G:=Ev.sub (b:=1) (by
  show aD.oK (AV.m (B.ag.map RD.p).length,_)=_
  rw[cz];rfl:Ev (k+2) (bx E gT::[fc p B K,.a,.a,.a,.a,.a,.a,.a,.a,.a,.a,.a,.a]) (.O 1 (some (1,4))) (nv B.ag.length)) .d (show 1<=B.ag.length from Nat.le_of_succ_le D)
 obtain⟨F,C,A,u,U,W,S⟩:=Iv k t (K:=K) cd V (show s+1<B.ag.length from Nat.add_lt_of_lt_sub O) (M:=M) L;exact H (⟨F,C,A,U,W,aO (fl:=.a) (env1:=bx F gT::fc C A K::u) rfl rfl (Xs.u (nP (n:=k+2) (x:=1) (y:=2) (fU (n:=k+2) (b:=b) (g:=gT) (r:=[fc p B K,.a,.a,.a,.a,.a,.a,.a,.a,.a,.a,.a,.a]) (es:=[.i 10]) (vs:=[nv 10]) (.u .d .j) N) (fU (n:=k+2) (b:=E) (g:=gT) (.u G .j) Q) rfl rfl) (Xs.I (l1:=[bk 74 1,bk 74 2]) (Vt (k+1) (fc p B K) (bx I gT) (nv w) (nv s)) (Xs.u S .j))) rfl⟩)
def Ud(A:r<2)(h:ev GP (aa GP n) (.k 55 [0] [.i 2]) (bx b g::t)= .oK (nv r,bx b' g::t)):ev GP (aa GP n) (.q (.k 55 [0] [.i 2]) (.i 0)) (bx b g::t)= .oK (bv (r==0),bx b' g::t):=by
 show(ev GP (aa GP n) (.k 55 [0] [.i 2]) (bx b g::t)).i _=_
 rw[h];obtain rfl |rfl:=Mine.Gj A<;>rfl
def iy(h:ev GP (aa GP n) e ah= .oK (v,env1))(hs:bu GP (aa GP n) es env1= .oK (vs,env2)):bu GP (aa GP n) (e::es) ah= .oK (v::vs,env2):=by
 show(ev GP (aa GP n) e ah).i _=_
 rw[h]
 show(bu GP (aa GP n) es env1).i _=_
 rw[hs];rfl
def xu(h:bu GP (aa GP n) es ah= .oK (vs,env1))(A:hZ GP o vs=some w):ev GP (aa GP n) (.op o es) ah= .oK (w,env1):=by
 show(bu GP (aa GP n) es ah).i _=_
 rw[h]
 show(aD.d (hZ GP o vs)).i _=_
 rw[A];rfl
def Gl(h:ev GP (aa GP n) e ah= .oK (v,env1)):Xs n ah (.y e::l) (.oK (.C (.h v),env1)):=by
 show(((ev GP (aa GP n) e ah).i _).i _).i _=_
 rw[h];rfl
def o6(h:ev GP (aa GP n) e ah= .oK (v,env1))(A:x.blt env1.length=true):Ex n ah (.h x false e) (env1.set x (.h v)):=by
 show((ev GP (aa GP n) e ah).i _).i _=_
 rw[h]
 show(aV env1 x (.h v)).i _=_
 rw[cq A];rfl
def Gr(k)(g)(X:BX (7+M) b):kO (λb' w=>BX M b') (λb' w=>kq w) (λb' w=>aa GP (k+3) 75 [bx b g]= .oK (.h w.v,[bx b' g])):=by
 refine bB λP0 L=>?_;obtain⟨i,B,u,h1,P⟩:=bU (k+1) g (m:=2) (by decide) (by decide) (show BX (1+(6+M)) b from X.le (zL rfl));obtain⟨N,C,O,e,q⟩:=bU (k+1) g (m:=2) (by decide) (by decide) (show BX (1+(5+M)) i from u.le (zL rfl));obtain⟨Q,A,a,U,d⟩:=bU (k+1) g (m:=5) (by decide) (by decide) (show BX (1+(4+M)) N from O.le (zL rfl));obtain⟨H,r4,l,h4,e4⟩:=bU (k+1) g (m:=2) (by decide) (by decide) (show BX (1+(3+M)) Q from a.le (zL rfl));obtain⟨W,G,Mu,Z,y⟩:=bU (k+1) g (m:=2) (by decide) (by decide) (show BX (1+(2+M)) H from l.le (zL rfl));obtain⟨s,D,V,S,z⟩:=bU (k+1) g (m:=3) (by decide) (by decide) (show BX (1+(1+M)) W from Mu.le (zL rfl));obtain⟨I,E,Xz,h7,Y⟩:=bU (k+1) g (m:=100) (by decide) (by decide) (show BX (1+M) s from V.le (fh _));have f:∀{b b':mK} {t:List SV} {m r:Nat},aa GP (k+2) 55 [bx b g,.h (nv m)]= .oK (.h (nv r),[bx b' g])->ev GP (aa GP (k+2)) (.k 55 [0] [.d (.m (Int.ofNat m))]) (bx b g::t)= .oK (nv r,bx b' g::t):=λh=>fU (.u .d .j) h;have F:∀{b b':mK} {t:List SV} {m r:Nat} (j:Nat),aa GP (k+2) 55 [bx b g,.h (nv m)]= .oK (.h (nv r),[bx b' g])->ev GP (aa GP (k+2)) (.p [.d (.m (Int.ofNat j)),.k 55 [0] [.d (.m (Int.ofNat m))]]) (bx b g::t)= .oK (nv (j+r),bx b' g::t):=λj h=>jJ .d (f h) rfl;have Sy:1+C∈[1,2]:=(by decide:∀r,r<2->1+r∈[1,2]) C e;have R:1+A∈[1,2,3,4,5]:=(by decide:∀r,r<5->1+r∈[1,2,3,4,5]) A U;have c:B∈[0,1]:=(by decide:∀r,r<2->r∈[0,1]) B h1;have VA:D∈[0,1,2]:=(by decide:∀r,r<3->r∈[0,1,2]) D S;refine L ?_
 refine⟨I,⟨B,1+C,1+A,r4==0,G==0,D,300+E⟩,Xz,⟨c,Sy,R,VA,List.mem_range'_1.mpr (by show 300<=300+E/\300+E<300+100;exact⟨eN _ _,Nat.add_lt_add_left h7 _⟩)⟩,aO (fl:=.C (.h (.aj [nv B,nv (1+C),nv (1+A),bv (r4==0),bv (G==0),nv D,nv (300+E)]))) (env1:=[bx I g,.h (.aj [nv B,nv (1+C),nv (1+A),bv (r4==0)])]) rfl rfl (.u (by
  exact o6 (xu (o:=.aj) (iy (f (t:=[.a]) P) (iy (F 1 q) (iy (F 1 d) (iy (Ud h4 (f e4)) (es:=[]) rfl)))) rfl) rfl:Ex (k+2) [bx b g,.a] (bk 75 0) [bx H g,.h (.aj [nv B,nv (1+C),nv (1+A),bv (r4==0)])]) ?_) rfl⟩
 exact Gl (jJ (o:=.G) (Ev.H (n:=k+2) (x:=1) (v:=.aj [nv B,nv (1+C),nv (1+A),bv (r4==0)]) (ah:=[bx H g,.h (.aj [nv B,nv (1+C),nv (1+A),bv (r4==0)])]) rfl) (xu (o:=.aj) (iy (Ud Z (f y)) (iy (f z) (iy (F 300 Y) (es:=[]) rfl))) rfl) (w:=.aj [nv B,nv (1+C),nv (1+A),bv (r4==0),bv (G==0),nv D,nv (300+E)]) rfl)
def MI(l:List Int):cb (l.map .m)=some (l.map .int):=by
 induction l with
 |nil=>rfl
 |cons a l A=>
  show(cb (l.map .m)).map _=_
  rw[A];rfl
noncomputable def vf(s:Int×Int)(c:Int):Int×Int:=(if(s.1==0&&decide (10^18<=c))=true then(c-10^18).fmod (Int.ofNat (10^90))else s.1,(s.2*48271+c).fmod (Int.ofNat 2147483629))
def SJ:hZ GP .pow [.m 10,.m 18]=some (.m (10^18)):=by kernel_rfl
def V2:hZ GP .pow [.m 10,.m 90]=some (.m (Int.ofNat (10^90))):=by kernel_rfl
def C6(l:List Int):∃r:List Int,hZ GP (.f false true) [.aj (l.map .m),.m 24]=some (.aj (r.map .m)):=by
 refine⟨l.take (PySem.clipAt (l.map AV.m).length 24-0),?_⟩;show some (AV.aj (((l.map AV.m).drop 0).take (PySem.clipAt (l.map AV.m).length 24-0)))=_;rw[List.map_take];rfl
noncomputable def fB:List Int->Bool
 |[a]=>decide ((a.natAbs:Int)<10)
 |_ =>false
def nZ(n:Nat)(l:List Int)(t:List SV):Ev n (.h (.aj (l.map .m))::t) (.or [.q (.r 0) (.l []),.and [.q (.n [.r 0]) (.i 1),.I (.op .abs [.x [.r 0,.i 0]]) [.lt] [.i 10]]]) (bv (PyData.eqvAll (l.map .int) [] || (l.length==1&&fB l))):=by
 refine .Co (.or (.I (u:=.aj (l.map .m)) (v:=.aj []) (.H rfl) (.op .j rfl) (by
  show((cb (l.map .m)).bind _).bind _=_
  rw[MI]
  exact if_pos (az (Nat.min_le_right _ _) (by decide))):Ev n (.h (.aj (l.map .m))::t) (.q (.r 0) (.l [])) (bv (PyData.eqvAll (l.map .int) []))) λy=>.dI (.U (.and (.I (u:=nv (l.map AV.m).length) (v:=nv 1) (.E (.H rfl)) .d (congrArg some (show(Int.ofNat (l.map AV.m).length==Int.ofNat 1)=_ by
  rw[cz];cases e:l.length==1
  ·exact beq_eq_false_iff_ne.mpr λz=>absurd (Int.ofNat.inj z) (ne_of_beq_false e)
  ·rw[eq_of_beq e];rfl)):Ev n (.h (.aj (l.map .m))::t) (.q (.n [.r 0]) (.i 1)) (bv (l.length==1))) λz=>?_)))
 obtain⟨a,rfl⟩:=List.length_eq_one_iff.mp (eq_of_beq z);exact .dI (.I (u:=.m a.natAbs) (v:=.m 10) (.g (w:=.m a.natAbs) (.y (v:=.aj [.m a]) (v':=nv 0) (w:=.m a) (.H rfl) .d rfl) rfl) .d rfl)
def Ir(k:Nat)(l:List Int):Nr (λb f=>BX 1000 b) (λb f=>aa GP (k+1) 54 [.h (.aj (l.map .m))]= .oK (bx b ⟨f,0,0⟩,[])):=by
 obtain⟨r,H⟩:=C6 l;have G:=nZ k l;generalize (PyData.eqvAll (l.map .int) [] || (l.length==1&&fB l))=f at G
 have D:=Ex.loop (n:=k) (t:=bk 54 1) (j:=SV.a) (s:=((0,33023):Int×Int)) (l:=r) (λs j=>[.h (.aj (l.map .m)),.h (.m s.1),.h (.m s.2),j]) (λz s=>0<=s.1/\0<=s.2/\s.2<2^31) .m vf rfl (.u (.y (.H rfl) .d H) .j) rfl ⟨Int.le_refl 0,by decide,by decide⟩ λc r s j A=>by
  have C:Ev k [.h (.aj (l.map .m)),.h (.m s.1),.h (.m s.2),.h (.m c)] (.and [.q (.r 1) (.i 0),.I (.r 3) [.ge] [.op .pow [.i 10,.i 18]]]) (bv (s.1==0&&decide (10^18<=c))):=.U (.and (.I (u:=.m s.1) (v:=.m 0) (.H rfl) .d rfl) λz=>.dI (.I (u:=.m c) (v:=.m (10^18)) (.H rfl) (.y .d .d SJ) rfl));have F:∀g:Int,Ex k [.h (.aj (l.map .m)),.h (.m g),.h (.m s.2),.h (.m c)] (.h 2 false (.op .R [.p [.op .a [.r 2,.i 48271],.r 3],.i 2147483629])) [.h (.aj (l.map .m)),.h (.m g),.h (.m ((s.2*48271+c).fmod (Int.ofNat 2147483629))),.h (.m c)]:=λg=>.h (.R (.y (w:=.m (s.2*48271+c)) (.y (w:=.m (s.2*48271)) (.H rfl) .d (if_pos ⟨R5 A.2.1 (Int.lt_trans A.2.2 (by decide)),by decide⟩)) (.H rfl) rfl) .d (by decide)) rfl;obtain⟨q,L,I⟩:=iw (s.2*48271+c) (m:=2147483629) (by decide);obtain⟨N,M,E⟩:=iw (c-10^18) (m:=10^90) (by decide+kernel)
  have B:0<=(vf s c).2/\(vf s c).2<2^31:=by
   show 0<=(s.2*48271+c).fmod (Int.ofNat 2147483629)/\(s.2*48271+c).fmod (Int.ofNat 2147483629)<2^31;rw[I];simp only[Int.ofNat_eq_natCast];exact⟨Int.natCast_nonneg _,Int.lt_trans (Int.ofNat_lt.mpr L) (by decide)⟩
  cases hc:s.1==0&&decide (10^18<=c)
  ·rw[hc]at C;rw[(by unfold vf;rw[hc];rfl:vf s c=(s.1,(s.2*48271+c).fmod (Int.ofNat 2147483629)))]at B|-;exact .mk (j1:=.h (.m c)) rfl (.u (.z C .j) (.u (F s.1) .j)) rfl ⟨A.1,B⟩
  ·rw[hc]at C;rw[(by unfold vf;rw[hc];rfl:vf s c=((c-10^18).fmod (Int.ofNat (10^90)),(s.2*48271+c).fmod (Int.ofNat 2147483629)))]at B|-;refine .mk (j1:=.h (.m c)) rfl (.u (.z C (.u (.h (.R (m:=10^90) (.y (w:=.m (c-10^18)) (.H rfl) (.y .d .d SJ) rfl) (.y .d .d V2) (by decide+kernel)) rfl) .j)) (.u (F _) .j)) rfl ⟨?_,B⟩;show 0<=(c-10^18).fmod (Int.ofNat (10^90));rw[E];exact Int.natCast_nonneg _
 obtain⟨j,D,A⟩:=D;refine⟨⟨(r.foldl vf (0,33023)).1,(r.foldl vf (0,33023)).2,0⟩,f,⟨A.1,A.2.1,A.2.2,Int.le_refl 0,(by decide:(0:Int)+((1000:Nat):Int)<=2^20)⟩,aO (fl:=.C _) (env1:=[.h (.aj (l.map .m)),.h (.m (r.foldl vf (0,33023)).1),.h (.m (r.foldl vf (0,33023)).2),j]) rfl rfl (.u (s:=bk 54 0) (env1:=[.h (.aj (l.map .m)),.h (.m 0),.h (.m 33023),.a]) rfl (.u D ?_)) rfl⟩
 show(((ev GP (aa GP k) (.op .aj _) _).i _).i _).i _=_
 rw[show ev GP (aa GP k) (.op .aj _) _=_ from(.op (.u (.H rfl) (.u (.H rfl) (.u .d (.u (G _) (.u .d (.u .d .j)))))) rfl:Ev k [.h (.aj (l.map .m)),.h (.m (r.foldl vf (0,33023)).1),.h (.m (r.foldl vf (0,33023)).2),j] (.l [.r 1,.r 2,.i 0,.or [.q (.r 0) (.l []),.and [.q (.n [.r 0]) (.i 1),.I (.op .abs [.x [.r 0,.i 0]]) [.lt] [.i 10]]],.i 0,.i 0]) (.aj [.m (r.foldl vf (0,33023)).1,.m (r.foldl vf (0,33023)).2,.m 0,bv f,.m 0,.m 0]))];rfl
structure KD where
 p:HP
 B:BD
 x:CX
def KD.tw(w:WY)(q:KD):KD:=⟨HT w q.p,BT (T w q.x) (si w) q.B,q.x⟩
def KD.pl(q:KD)(K:List AV):AV:=pv (q.p.hd K) q.B
def KD.co(q:KD)(K:List AV):AV:=cv (q.p.hd K) q.B
structure mV(o:AV)(q:KD):Prop where
 h:yR q.p
 b:sA 60 q.B
 x:q.x∈dM
 hx:Hx q.p q.x o
noncomputable def oa{A:Type}(l:List A):List A:=l.drop 1++l.take 1
def fS(f:α->β)(l):(oa l).map f=oa (l.map f):=by
 unfold oa;rw[List.map_append,List.map_drop,List.map_take]
def js{P:α->Prop}(h:∀y∈l,P y):∀y∈oa l,P y:=g0.mpr ⟨λy m=>h y (List.mem_of_mem_drop m),λy m=>h y (List.mem_of_mem_take m)⟩
section
variable {q:KD}(k:Nat)
def KD.j_(A:List (AV×AV))(C:∀z∈A,aa GP (k+1) 84 [.h z.1]= .oK (.h z.2,[])):aa GP (k+2) 84 [.h (q.pl (A.map Prod.fst))]= .oK (.h (q.co (A.map Prod.snd)),[]):=Mq.j_ k (q.p.hd []) q.B _ rfl A C
def KD.jS(A:List (AV×AV))(C:∀z∈A,aa GP k 85 [.h z.1]= .oK (.h z.2,[])):aa GP (k+1) 85 [.h (q.co (A.map Prod.fst))]= .oK (.h (q.pl (A.map Prod.snd)),[]):=Mq.jS k (q.p.hd []) q.B _ rfl A C
def KD.a(E:kq w)(h:mV o q)(A:List (AV×AV))(C:K2 (A.map Prod.snd) q.x.a)(D:∀z∈A,aa GP (k+4) 83 [.h z.1,.h w.v,.h q.x.c]= .oK (.h z.2,[])):aa GP (k+5) 83 [.h (q.pl (A.map Prod.fst)),.h w.v,.h o]= .oK (.h ((q.tw w).pl (Dt (A.map Prod.snd))),[]):=vo k E h.x h.hx (h.h.Ci w) q.B (λr m=>⟨h.b.cls r m,(h.b.ln r m).ln⟩) (λc m=>(h.b.cs c m).1) A C D
end
structure Nx(q q1:KD):Prop where
 p:q1.p=q.p
 x:q1.x=q.x
def mV.nx(h:mV o q)(w:WF A)(s:Sm q.B A):mV o ⟨q.p,A,q.x⟩:=⟨h.h,h.b.sm w s,h.x,h.hx⟩
def yS(f:Nat)(as:List SV)(w:WY)(n:Nat)(c A d B:AV):Prop:=aa GP n f (.h c::as)= .oK (.h d,[])/\aa GP n f (.h A::as)= .oK (.h B,[])
def Iq(F:kq w)(k)(h:mV o q)(l)(C:∀z∈l,z∈rg)(I:∀y∈l.map (·.2),y∈pn):∃A:KD,mV o A/\Nx q A/\yS 53 [.h (pE l)] w (k+5) (q.co []) ((q.tw w).co []) (A.co []) ((A.tw w).co []):=by
 refine bB λN D=>?_;obtain⟨E,M,L,G,H⟩:=(tp F h.x).chain (si w) (l.map (·.2)) I q.B h.b.wf;exact D (⟨⟨q.p,E,q.x⟩,h.nx M L,⟨rfl,rfl⟩,xG k (q.p.hd []) l C G [] (gy _),xG k ((HT w q.p).hd []) l C H [] (gy _)⟩)
def zo(E:kq w)(k)(h:mV o q):∃A:KD,mV o A/\Nx q A/\yS 51 [] w (k+6) (q.co []) ((q.tw w).co []) (A.co []) ((A.tw w).co []):=by
 refine bB λL C=>?_;obtain⟨D,I,H,F,G⟩:=(tp E h.x).o (si w) 24 q.B h.b.wf;exact C (⟨⟨q.p,D,q.x⟩,h.nx I H,⟨rfl,rfl⟩,nF k (q.p.hd []) F [] (gy _),nF k ((HT w q.p).hd []) G [] (gy _)⟩)
def cos(A:List KD):List AV:=A.map (·.co [])
def jK(w:WY)(A:List KD):List AV:=oa (A.map λq=>(q.tw w).co [])
def cW(A:List KD):List AV:=A.map (·.pl [])
def q_(w:WY)(A:List KD):List AV:=oa (A.map λq=>(q.tw w).pl [])
def oK:AV:=.aj [nv 3]
def xa(h:∀q,mV oK q->∃A:KD,mV oK A/\Nx q A/\yS f as w n (q.co []) ((q.tw w).co []) (A.co []) ((A.tw w).co [])):∀B:List KD,(∀q∈B,mV oK q)->∃pk:List (KD×KD),pk.map Prod.fst=B/\(∀z∈pk,mV oK z.2/\Nx z.1 z.2/\yS f as w n (z.1.co []) ((z.1.tw w).co []) (z.2.co []) ((z.2.tw w).co [])):=by
 intro B
 induction B with
 |nil=>exact λu=>⟨[],rfl,gy _⟩
 |cons q B D=>
  intro C;obtain⟨pk,e,E⟩:=D λy m=>C y (.tail _ m);obtain⟨A,a⟩:=h q (C q (.head _));exact⟨(q,A)::pk,congrArg (q:: ·) e,cu.mpr ⟨a,E⟩⟩
def Ip(O:kq w)(k)(h:mV o q)(Q:∀z∈G,mV oK z)(l)(H:∀z∈l,z∈rg)(M:∀y∈l.map (·.2),y∈pn):Nq (λ(C:KD) (A:List KD)=>mV o C) (λ(C:KD) (A:List KD)=>Nx q C) (λ(C:KD) (A:List KD)=>(∀z∈A,mV oK z)) (λ(C:KD) (A:List KD)=>A.map (·.x)=G.map (·.x)) (λ(C:KD) (A:List KD)=>yS 53 [.h (pE l)] w (k+6) (q.co (cos G)) ((q.tw w).co (jK w G)) (C.co (cos A)) ((C.tw w).co (jK w A))):=by
 refine bB λX P=>?_;obtain⟨pk,e,F⟩:=xa (λz V=>Iq O k V l H M) G Q;obtain⟨I,S,U,W,R⟩:=(tp O h.x).chain (si w) (l.map (·.2)) M q.B h.b.wf;subst e
 have L:=xG (k+1) (q.p.hd []) l H W (pk.map λz=>(z.1.co [],z.2.co [])) (λz m=>by
  refine bZ m λy D E=>?_;obtain rfl:=E
  exact(F y D).2.2.1)
 have N:=xG (k+1) ((HT w q.p).hd []) l H R (oa (pk.map λz=>((z.1.tw w).co [],(z.2.tw w).co []))) (js λz m=>by
  refine bZ m λy D E=>?_;obtain rfl:=E
  exact(F y D).2.2.2)
 rw[cH,cH]at L;rw[fS,fS,cH,cH]at N;refine P (⟨⟨q.p,I,q.x⟩,pk.map Prod.snd,h.nx S U,⟨rfl,rfl⟩,λz m=>?_,by rw[cH,cH];exact List.map_congr_left λz m=>(F z m).2.1.x,?_,?_⟩)
 ·refine bZ m λy D E=>?_;obtain rfl:=E;exact(F y D).1
 ·show aa GP (k+6) 53 [.h (cv (q.p.hd (cos (pk.map Prod.fst))) q.B),_]= .oK (.h (cv (q.p.hd (cos (pk.map Prod.snd))) I),[]);unfold cos;rw[cH,cH];exact L
 ·show aa GP (k+6) 53 [.h (cv ((HT w q.p).hd (jK w (pk.map Prod.fst))) _),_]= .oK (.h (cv ((HT w q.p).hd (jK w (pk.map Prod.snd))) _),[]);unfold jK;rw[cH,cH];exact N
def zm(M:kq w)(k)(h:mV o q)(O:∀z∈G,mV oK z):Nq (λ(C:KD) (A:List KD)=>mV o C) (λ(C:KD) (A:List KD)=>Nx q C) (λ(C:KD) (A:List KD)=>(∀z∈A,mV oK z)) (λ(C:KD) (A:List KD)=>A.map (·.x)=G.map (·.x)) (λ(C:KD) (A:List KD)=>yS 51 [] w (k+7) (q.co (cos G)) ((q.tw w).co (jK w G)) (C.co (cos A)) ((C.tw w).co (jK w A))):=by
 refine bB λV N=>?_;obtain⟨pk,e,F⟩:=xa (λz S=>zo M k S) G O;obtain⟨H,Q,R,U,P⟩:=(tp M h.x).o (si w) 24 q.B h.b.wf;subst e
 have I:=nF (k+1) (q.p.hd []) U (pk.map λz=>(z.1.co [],z.2.co [])) (λz m=>by
  refine bZ m λy D E=>?_;obtain rfl:=E
  exact(F y D).2.2.1)
 have L:=nF (k+1) ((HT w q.p).hd []) P (oa (pk.map λz=>((z.1.tw w).co [],(z.2.tw w).co []))) (js λz m=>by
  refine bZ m λy D E=>?_;obtain rfl:=E
  exact(F y D).2.2.2)
 rw[cH,cH]at I;rw[fS,fS,cH,cH]at L;refine N (⟨⟨q.p,H,q.x⟩,pk.map Prod.snd,h.nx Q R,⟨rfl,rfl⟩,λz m=>?_,by rw[cH,cH];exact List.map_congr_left λz m=>(F z m).2.1.x,?_,?_⟩)
 ·refine bZ m λy D E=>?_;obtain rfl:=E;exact(F y D).1
 ·show aa GP (k+7) 51 [.h (cv (q.p.hd (cos (pk.map Prod.fst))) q.B)]= .oK (.h (cv (q.p.hd (cos (pk.map Prod.snd))) H),[]);unfold cos;rw[cH,cH];exact I
 ·show aa GP (k+7) 51 [.h (cv ((HT w q.p).hd (jK w (pk.map Prod.fst))) _)]= .oK (.h (cv ((HT w q.p).hd (jK w (pk.map Prod.snd))) _),[]);unfold jK;rw[cH,cH];exact L
inductive XO:CX->List CX->Prop
 |no:XO ⟨[3],0⟩ []
 |two:XO ⟨[3],2⟩ [⟨[2,3],0⟩,⟨[3],0⟩]
def XO.a(h:XO x l):∀y∈l,y.a=0:=by
 cases h
 ·exact gy _
 ·exact cu.mpr ⟨rfl,cu.mpr ⟨rfl,gy _⟩⟩
def XO.E(h:XO x l):l.length<=2:=by cases h<;>exact iD rfl
def XO.c(h:XO x l):x.c= .aj [nv 3]:=by cases h<;>rfl
def oT:AV:=.aj []
structure Tp(q:KD)(ks:List KD):Prop where
 hq:mV oT q
 hk:∀z∈ks,mV oK z
 hx:XO q.x (ks.map (·.x))
section
variable {q:KD}{ks:List KD}(t:Tp q ks)
include t
def Tp.a:∀z∈ks,z.x.a=0:=λz m=>t.hx.a _ (List.mem_map.mpr ⟨z,m,rfl⟩)
def Tp.k2(f):K2 (ks.map f) q.x.a:=by
 have h:=t.hx
 exact(λx l h=>by
  cases h
  ·exact λm e=>by cases List.length_eq_zero_iff.mp e;exact .j
  ·exact λm e=>match m,e with
    |[a,b],_ =>.two:∀(x:CX) (l:List CX),XO x l->∀m:List AV,m.length=l.length->K2 m x.a) _ _ h _ (by rw[cz,cz])
def Tp.c:q.x.c=oK:=t.hx.c
theorem Tp.code(k):aa GP (k+3) 84 [.h (q.pl (cW ks))]= .oK (.h (q.co (cos ks)),[]):=by
 have:=KD.j_ (q:=q) (k+1) (ks.map λz=>(z.pl [],z.co [])) λz m=>by
  refine bZ m λy B A=>?_;obtain rfl:=A;exact KD.j_ k [] (gy _)
 rw[cH,cH]at this;exact this
theorem Tp.g(w)(k):aa GP (k+3) 84 [.h ((q.tw w).pl (q_ w ks))]= .oK (.h ((q.tw w).co (jK w ks)),[]):=by
 have:=KD.j_ (q:=q.tw w) (k+1) (oa (ks.map λz=>((z.tw w).pl [],(z.tw w).co []))) (js λz m=>by
  refine bZ m λy B A=>?_;obtain rfl:=A
  exact KD.j_ (q:=y.tw w) k [] (gy _))
 rw[fS,fS,cH,cH]at this;exact this
theorem Tp.told(k):aa GP (k+2) 85 [.h (q.co (cos ks))]= .oK (.h (q.pl (cW ks)),[]):=by
 have:=KD.jS (q:=q) (k+1) (ks.map λz=>(z.co [],z.pl [])) λz m=>by
  refine bZ m λy B A=>?_;obtain rfl:=A;exact KD.jS k [] (gy _)
 rw[cH,cH]at this;exact this
theorem Tp.f(w)(k):aa GP (k+2) 85 [.h ((q.tw w).co (jK w ks))]= .oK (.h ((q.tw w).pl (q_ w ks)),[]):=by
 have:=KD.jS (q:=q.tw w) (k+1) (oa (ks.map λz=>((z.tw w).co [],(z.tw w).pl []))) (js λz m=>by
  refine bZ m λy B A=>?_;obtain rfl:=A
  exact KD.jS (q:=y.tw w) k [] (gy _))
 rw[fS,fS,cH,cH]at this;exact this
def Tp.d(B:kq w)(k):aa GP (k+6) 83 [.h (q.pl (cW ks)),.h w.v,.h oT]= .oK (.h ((q.tw w).pl (q_ w ks)),[]):=by
 have:=KD.a (k+1) B t.hq (ks.map λz=>(z.pl [],(z.tw w).pl [])) (by
  rw[cH]
  exact t.k2 _) λz m=>by
  refine bZ m λy A C=>?_;obtain rfl:=C;rw[t.c];exact KD.a k B (t.hk y A) [] (by rw[t.a y A];exact .j) (gy _)
 rw[cH,cH]at this;exact this
def Tp.e(A:kq w):PD 8 300000 ((q.tw w).pl (q_ w ks)):=by
 exact((t.hq.b.T A t.hq.x).b (k:=6) (m:=17314) (t.hq.h.T A) (js λa m=>by
  refine bZ m λz B C=>?_;obtain rfl:=C
  exact(((t.hk z B).b.T A (t.hk z B).x).b (k:=4) (m:=1078) ((t.hk z B).h.T A) (K:=[]) (gy _) (da _) (by decide) (by decide)).mono (by decide) (by decide)) (by
   rw[(by
    unfold q_ oa;rw[dc,List.length_drop,List.length_take,cz,cz]
    exact(congrArg (ks.length-1+ ·) (Nat.min_comm 1 _)).trans (Nat.sub_add_min_cancel _ _):(q_ w ks).length=(ks.map (·.x)).length)];exact(t.hx.E):(q_ w ks).length<=2) (by decide) (by decide)).mono (by decide) (by decide)
def Tp.b:PD 8 300000 (q.pl (cW ks)):=by
 have C:∀{B:BD},sA 60 B->sA 400 B:=λb=>⟨b.wf,λr m=>(b.ln r m).elim λj h=>⟨j,az h.1 (by decide),h.2⟩,b.cs⟩
 exact((C t.hq.b).b (k:=6) (m:=17314) t.hq.h (λa m=>by
  refine bZ m λz A D=>?_;obtain rfl:=D
  exact((C (t.hk z A).b).b (k:=4) (m:=1078) (t.hk z A).h (K:=[]) (gy _) (da _) (by decide) (by decide)).mono (by decide) (by decide)) (by
   rw[(by
    unfold cW
    rw[cz,cz]:(cW ks).length=(ks.map (·.x)).length)];exact(t.hx.E):(cW ks).length<=2) (by decide) (by decide)).mono (by decide) (by decide)
end
def eq_str(s):d_ .eq (.j s) (.j s)=some true:=congrArg some (beq_self_eq_true s)
def Tp.alike(B:kq w)(t:Tp q A)(k):aa GP (k+7) 87 [.h (q.co (cos A)),.h ((q.tw w).co (jK w A)),.h w.v]= .oK (.h (bv true),[]):=by
 have r:=(t.e B).repr (by decide) (by decide);exact aO rfl rfl (.C (.I (.g (.K (.u (.H rfl) .j) (t.f w (k+4))) r) (.g (.K (.u (.K (.u (.H rfl) .j) (t.told (k+4))) (.u (.H rfl) (.u (.op .j (w:=oT) rfl) .j))) (t.d B k)) r) (eq_str _))) rfl
def Tp.nx(t:Tp q C)(h:mV oT B)(n:Nx q B)(D:∀z∈A,mV oK z)(E:A.map (·.x)=C.map (·.x)):Tp B A:=⟨h,D,by rw[n.x,E];exact t.hx⟩
def Ic(n:Nat)(C:AV):aa GP (n+1) 33 [.h C]=aa GP (n+1) 33 [.h C,.h (.tup [])]:=by kernel_rfl
def yU:Option ST->AV
 |some s=>.aj (s.D.map dv)
 |none=>.j ⟨#[]⟩
def O3(C:AV):Option ST->aD (AV×List SV)
 |some s=>.oK (.aj (s.D.map dv),[.h C])
 |none=>.bG
def nG(k)(h:aa GP (k+1) 33 [.h C,.h (.tup [])]=DG m):aa GP (k+2) 86 [.h C]= .oK (.h (yU m),[]):=by
 rw[<-Ic]at h;refine aO (fl:=.C (.h (yU m))) (env1:=[.h C]) rfl rfl ?_ rfl
 show((pa (ev GP (aa GP (k+1)) (.h 33 [.r 0]) [.h C]) _).i _).i _=_
 rw[(by
  show((aa GP (k+1) 33 [.h C]).i _).i _=_
  rw[h]
  cases m<;>rfl:ev GP (aa GP (k+1)) (.h 33 [.r 0]) [.h C]=O3 C m)]
 cases m<;>rfl
noncomputable def so:Option Nat->PyData
 |none=>.none
 |some d=>.int (Int.ofNat d)
def MJ(l:List (Option Nat)):cb (l.map dv)=some (l.map so)/\PyData.canLayAll0 (l.map so)=true/\PyData.depthAll (l.map so)=0:=by
 induction l with
 |nil=>exact⟨rfl,rfl,rfl⟩
 |cons a l A=>
  have e:(dv a).data=some (so a):=by cases a<;>rfl
  refine⟨?_,?_,?_⟩
  ·show(dv a).data.bind _=_
   rw[e]
   show(cb (l.map dv)).map _=_
   rw[A.1];rfl
  ·show(PyData.canLay0 (so a)&&PyData.canLayAll0 (l.map so))=true
   rw[A.2.1];cases a<;>rfl
  ·show max (so a).depth (PyData.depthAll (l.map so))=0;rw[A.2.2];cases a<;>rfl
def Fm(m:Option ST):d_ .ne (yU m) (yU m)=some false/\d_ .eq (yU m) (.j ⟨#[]⟩)=some m.isNone:=by
 induction m using aF with
 |none=>exact⟨rfl,rfl⟩
 |some s=>
  obtain⟨B,A,C⟩:=MJ s.D
  have e:(AV.aj (s.D.map dv)).data=some (.list (s.D.map so)):=by
   show(cb (s.D.map dv)).bind _=_
   rw[B];rfl
  have d:(PyData.list (s.D.map so)).depth<=50:=by
   show PyData.depthAll (s.D.map so)+1<=50;rw[C];decide
  constructor
  ·show((AV.aj (s.D.map dv)).data.bind λx=>(AV.aj (s.D.map dv)).data.bind λy=>if min x.depth y.depth<=50 then some (PyData.eqv x y)else none).map _=_
   rw[e];show Option.map _ (if min (PyData.list (s.D.map so)).depth (PyData.list (s.D.map so)).depth<=50 then some (PyData.eqv (.list (s.D.map so)) (.list (s.D.map so)))else none)=_;rw[if_pos (az (Nat.min_le_left _ _) d),SeqAt.eqv_refl (.list (s.D.map so)) A];rfl
  ·show((AV.aj (s.D.map dv)).data.bind λx=>(AV.j ⟨#[]⟩).data.bind λy=>if min x.depth y.depth<=50 then some (PyData.eqv x y)else none)=_
   rw[e,show(AV.j ⟨#[]⟩).data=some (.str ⟨#[]⟩)by kernel_rfl]
   show(if min (PyData.list (s.D.map so)).depth (PyData.str ⟨#[]⟩).depth<=50 then some (PyData.eqv (.list (s.D.map so)) (.str ⟨#[]⟩))else none)=_
   rw[if_pos (az (Nat.min_le_left _ _) d)];rfl
def M0(a b c f g:Nat)(d:Bool):(bb.map λe=>jc.map λq=>ru jc (T3 ⟨a,b,c,d,e,f,g⟩ ⟨[3],2⟩ q))=bb.map λz=>jc.map tt:=by kernel_rfl
def Hi:∀y∈df,y.length<=10:=by
 exact λy m=>iD (ax (by kernel_rfl:(df.map λy=>y.length.ble 10)=df.map tt) y m)
def KD.cO(q:KD)(K)(h:yR q.p):CO (q.co K) (q.B.ag.map RD.v) (q.B.aL.map CT.v) (q.B.aB.map nv) K (.j q.p.f) q.p.name:=⟨⟨_,_,rfl⟩,Hi _ (h.nm _ (.head _))⟩
def g_.of{N:Nat}{q:KD}{sn:AV}(h:yR q.p)(b:sA N q.B)(ck:∀c∈q.B.aL,CK q.B.ag.length c)(s:Sn (q.co K) sn x tw)(A:∀r∈q.B.ag,m9 x tw r=false->x=⟨[3],2⟩/\∃z∈jc,∃l,r=⟨z.1,z.2.1,z.2.2,.r,l⟩):g_ (q.co K) sn q.B K q.p.f q.p.name x tw:=
 ⟨q.cO K h,s,h.f,b.wf.E,b.cls,λr m C=>((b.wf.ag r m).1 C).1.2,A,ck,b.wf.g,λs m=>az (fj (gZ (b.wf.aB s m) b.wf.E)) (by decide)⟩
def J0(h:kq w):∀s∈fw,(si w s==pJ)=(s==pJ):=by
 obtain⟨a,b,c,d,e,f,g⟩:=w;exact ax (ax (by kernel_rfl:([0,1,2].map λf=>fw.map λs=>si ⟨a,b,c,d,e,f,g⟩ s==pJ)=[0,1,2].map λz=>fw.map λs=>s==pJ) f h.f)
def wW(A:kq w){q:KD}(C:q.x∈dM)(b:sA 60 q.B)(c):m7 c (q.tw w).B.ag.length ((q.tw w).B.ag.map (kP q.x true)) ((q.tw w).B.aL.map mU) (q.tw w).B.aB=m7 c q.B.ag.length (q.B.ag.map (kP q.x false)) (q.B.aL.map mU) q.B.aB:=by
 have D:(q.tw w).B.ag.length=q.B.ag.length:=cz _
 rw[(by
  show(q.B.ag.map (T w q.x)).map (kP q.x true)=_
  rw[cH]
  exact List.map_congr_left λr m=>K3 A C (b.cls r m):(q.tw w).B.ag.map (kP q.x true)=q.B.ag.map (kP q.x false)),(by
  show(q.B.aL.map _).map mU=_
  rw[cH];refine List.map_congr_left λc m=>?_;show CV.mk (!(si w c.s==_)) _ _ _ _=CV.mk (!(c.s==_)) _ _ _ _
  rw[J0 A c.s (b.cs c m).1]:(q.tw w).B.aL.map mU=q.B.aL.map mU),D];rfl
def EG(C:kq w){q:KD}(ck:∀c∈q.B.aL,CK q.B.ag.length c):∀c∈(q.tw w).B.aL,CK (q.tw w).B.ag.length c:=λc m=>by
 refine bZ m λy A E=>?_;obtain rfl:=E;have k:=ck y A;have D:(q.tw w).B.ag.length=q.B.ag.length:=cz _;rw[D];exact⟨zy C _ k.s,k.f,k.la,k.t,k.d⟩
def rT(I:kq w){q:KD}(F:q.x∈dM)(b:sA 60 q.B)(E:∀r∈q.B.ag,m9 q.x false r=false->q.x=⟨[3],2⟩/\∃z∈jc,∃l,r=⟨z.1,z.2.1,z.2.2,.r,l⟩):∀r∈(q.tw w).B.ag,m9 q.x true r=false->q.x=⟨[3],2⟩/\∃z∈jc,∃l,r=⟨z.1,z.2.1,z.2.2,.r,l⟩:=λr m C=>by
 refine bZ m λy A G=>?_;obtain rfl:=G;rw[Fz I F (b.cls y A)]at C;obtain⟨D,z,H,l,rfl⟩:=E y A C;refine⟨D,T3 w q.x z,?_,lm w l,?_⟩
 ·rw[D];obtain⟨a,b,c,d,e,f,g⟩:=w;exact eE (ax (ax (M0 a b c f g d) e (bN e)) z H)
 ·show RD.mk _ _ _ (cT w q.x z.1 .r) _=_;rw[xF];rfl
def wO{q:KD}(h:q.p.slots.length=3):Sn (q.co []) (.aj [q.co []]) ⟨[3],0⟩ tw:=by
 obtain⟨⟨C,n,D,A⟩,B,x⟩:=q;obtain⟨s,t,u,rfl⟩:=Mine.Nu h;exact .dI
def Fi{q t:KD}(h:q.p.slots.length=2)(h':t.p.slots.length=3):Sn (q.co []) (.aj [q.co [],t.co K]) ⟨[2,3],0⟩ tw:=by
 obtain⟨⟨H,n,L,C⟩,B,x⟩:=q;obtain⟨⟨G,I,D,F⟩,E,A⟩:=t;obtain⟨s,t,rfl⟩:=Mine.R7 h;obtain⟨a,b,c,rfl⟩:=Mine.Nu h';exact .d
def Fh{q k1 k2:KD}(h:q.p.slots.length=3)(h1:k1.p.f=(sr tw).1)(A:k2.p.f=(sr tw).2):Sn (q.co [k1.co [],k2.co []]) (.aj [q.co [k1.co [],k2.co []]]) ⟨[3],2⟩ tw:=by
 obtain⟨⟨N,n,Q,G⟩,B,x⟩:=q;obtain⟨⟨E,O,P,L⟩,C,S⟩:=k1;obtain⟨⟨F,D,I,M⟩,H,R⟩:=k2;cases h1;cases A;obtain⟨s,t,u,rfl⟩:=Mine.Nu h;exact .top
def rZ(w)(p):(HT w p).slots.length=p.slots.length:=by
 show((vn _ p.slots).map (ye w)).length=_
 unfold vn;rw[cz,dc,List.length_drop,List.length_take];exact(congrArg _ (Nat.min_eq_left (Nat.sub_le _ _))).trans (Nat.sub_add_cancel (Nat.sub_le _ _))
structure pz(g:GX)(kd:Tx)(q:KD):Prop where
 h:yR q.p
 f:q.p.f=kd
 sl:q.p.slots=sP kd
 s:rY g q.B
 x:q.x=rM g
inductive Na:KD->List KD->Prop
 |no {q:KD} (t:eJ q.x q.p q.B) (x:q.x=⟨[3],0⟩):Na q []
 |two {q b m:KD} (t:eJ q.x q.p q.B) (x:q.x=⟨[3],2⟩) (kb:pz ⟨false,1,0⟩ aP b) (km:pz ⟨false,0,0⟩ a_ m):Na q [b,m]
def AD:∀kd∈[aP,a_],(!(kd==bT))=true:=by
 exact ax (by kernel_rfl:([aP,a_].map λkd=> !(kd==bT))=[aP,a_].map λz=>true)
def DY(k){q:KD}(r:g_ (q.co []) sn q.B [] q.p.f q.p.name x tw)(hs:Seen q.p.f (q.co []) o sn)(A:m7 (!(q.p.f==bT)) q.B.ag.length (q.B.ag.map (kP x tw)) (q.B.aL.map mU) q.B.aB=some s):aa GP (k+7) 33 [.h (q.co []),.h o]= .oK (.h (.aj (s.D.map dv)),[]):=(rR k r hs).trans (by rw[A];rfl)
def pz.run(A:kd∈[aP,a_])(h:pz g kd q):∃s,m7 (!(q.p.f==bT)) q.B.ag.length (q.B.ag.map (kP q.x false)) (q.B.aL.map mU) q.B.aB=some s:=by
 obtain⟨f,H⟩:=h.s.b;obtain⟨s,e⟩:=H.run;exact⟨s,by rw[h.f,AD kd A,h.x];exact e⟩
def pz.bF(h:pz g kd q):∀r∈q.B.ag,m9 q.x false r=false->q.x=⟨[3],2⟩/\∃z∈jc,∃l,r=⟨z.1,z.2.1,z.2.2,.r,l⟩:=λr m e=>absurd (e.symm.trans (h.x▸h.s.oK r m)) fO
section
variable {w:WY}(hw:kq w)(k:Nat)
def pz.d{b:KD}(h:pz ⟨false,1,0⟩ aP b){t:KD}(B:t.p.slots.length=3):∃v,aa GP (k+7) 33 [.h (b.co []),.h (.aj [t.co K])]= .oK (.h v,[]):=by
 obtain⟨s,e⟩:=h.run (.head _);have A:b.x=⟨[2,3],0⟩:=h.x;refine⟨_,DY k (sn:=.aj [b.co [],t.co K]) (g_.of h.h h.s.a h.s.ck (A▸Fi (by rw[h.sl];rfl:b.p.slots.length=2) B) h.bF) ?_ e⟩;rw[h.f];exact .d (by decide:1<1000)
def pz.P{b:KD}(h:pz ⟨false,0,0⟩ a_ b):∃v,aa GP (k+7) 33 [.h (b.co []),.h (.tup [])]= .oK (.h v,[]):=by
 obtain⟨s,e⟩:=h.run (.tail _ (.head _));refine⟨_,DY k (sn:=.aj [b.co []]) (g_.of h.h h.s.a h.s.ck ((h.x:b.x=⟨[3],0⟩)▸wO (by rw[h.sl];rfl:b.p.slots.length=3)) h.bF) ?_ e⟩;rw[h.f];exact .e (.head _)
include hw
def pz.i{b:KD}(h:pz ⟨false,1,0⟩ aP b){t:KD}(C:t.p.slots.length=3):∃v,aa GP (k+7) 33 [.h ((b.tw w).co []),.h (.aj [t.co K])]= .oK (.h v,[]):=by
 obtain⟨s,e⟩:=h.run (.head _);have B:b.x=⟨[2,3],0⟩:=h.x;have A:b.x∈dM:=B▸.head _;refine⟨_,DY k (q:=b.tw w) (sn:=.aj [(b.tw w).co [],t.co K]) (g_.of (x:=b.x) (tw:=true) (h.h.T hw) (h.s.a.T hw A) (EG hw h.s.ck) (B▸Fi ((rZ w b.p).trans (by rw[h.sl];rfl):(b.tw w).p.slots.length=2) C) (rT hw A h.s.a h.bF)) ?_ ((wW hw A h.s.a _).trans e)⟩;rw[show(b.tw w).p.f=aP from h.f];exact .d (by decide:1<1000)
def pz.j{b:KD}(h:pz ⟨false,0,0⟩ a_ b):∃v,aa GP (k+7) 33 [.h ((b.tw w).co []),.h (.tup [])]= .oK (.h v,[]):=by
 obtain⟨s,e⟩:=h.run (.tail _ (.head _));have B:b.x=⟨[3],0⟩:=h.x;have A:b.x∈dM:=B▸.tail _ (.head _);refine⟨_,DY k (q:=b.tw w) (sn:=.aj [(b.tw w).co []]) (g_.of (x:=b.x) (tw:=true) (h.h.T hw) (h.s.a.T hw A) (EG hw h.s.ck) (B▸wO ((rZ w b.p).trans (by rw[h.sl];rfl):(b.tw w).p.slots.length=3)) (rT hw A h.s.a h.bF)) ?_ ((wW hw A h.s.a _).trans e)⟩;rw[show(b.tw w).p.f=a_ from h.f];exact .e (.head _)
def Na.a{q:KD}{E:List KD}(W:Na q E):aa GP (k+9) 86 [.h (q.co (cos E))]= .oK (.h (yU (m7 (!(q.p.f==bT)) q.B.ag.length (q.B.ag.map (kP q.x false)) (q.B.aL.map mU) q.B.aB)),[])/\aa GP (k+9) 86 [.h ((q.tw w).co (jK w E))]= .oK (.h (yU (m7 (!(q.p.f==bT)) q.B.ag.length (q.B.ag.map (kP q.x false)) (q.B.aL.map mU) q.B.aB)),[]):=by
 have D:∀{t:KD} {K:List AV},t.p.f∈[a_,bT]->Seen t.p.f (t.co K) (.tup []) (.aj [t.co K]):=λh=>.e h
 cases W with
 |no t x=>
  have A:q.x∈dM:=x▸.tail _ (.head _)
  have C:q.p.slots.length=3:=by rw[t.sl];rfl
  refine⟨nG (k+7) (rR (k+1) (g_.of t.h t.b t.ck (x▸wO C) t.bF) (D t.f)),nG (k+7) ((rR (k+1) (g_.of (q:=q.tw w) (x:=q.x) (tw:=true) (t.h.T hw) (t.b.T hw A) (EG hw t.ck) (x▸wO ((rZ w q.p).trans C)) (rT hw A t.b t.bF)) (D (t:=q.tw w) t.f)).trans ?_)⟩;rw[wW hw A t.b];rfl
 | @two b m t x kb km=>
  refine bB λN G=>?_;have A:q.x∈dM:=x▸.tail _ (.tail _ (.head _))
  have C:q.p.slots.length=3:=by rw[t.sl];rfl
  have F:(q.tw w).p.slots.length=3:=(rZ w q.p).trans C;obtain⟨Q,H⟩:=kb.d k (t:=q) (K:=[b.co [],m.co []]) C;obtain⟨M,L⟩:=km.P k;obtain⟨O,I⟩:=kb.i hw k (t:=q.tw w) (K:=[(m.tw w).co [],(b.tw w).co []]) F;obtain⟨P,e4⟩:=km.j hw k;refine G (⟨nG (k+7) (xD (k+1) (g_.of t.h t.b t.ck (x▸Fh (tw:=false) C kb.f km.f) t.bF) (D t.f) (.inl ⟨kb.f,H⟩) (.inr ⟨km.f,L⟩)),nG (k+7) ((xD (k+1) (g_.of (q:=q.tw w) (x:=q.x) (tw:=true) (t.h.T hw) (t.b.T hw A) (EG hw t.ck) (x▸Fh (k1:=m.tw w) (k2:=b.tw w) (tw:=true) F km.f kb.f) (rT hw A t.b t.bF)) (D (t:=q.tw w) t.f) (.inr ⟨km.f,e4⟩) (.inl ⟨kb.f,I⟩)).trans ?_)⟩);rw[wW hw A t.b];rfl
end
section
variable {n f:Nat}{S0:SV}{g:GX}{b b1 b2:mK}{r r1:List SV}{es:List IE}{vs:List AV}
def mA(h:bu GP (aa GP n) es (S0::bx b g::r)= .oK (vs,S0::bx b1 g::r1))(A:aa GP n f (bx b1 g::vs.map .h)= .oK (.h w,[bx b2 g])):ev GP (aa GP n) (.K (.fn f) [1] es) (S0::bx b g::r)= .oK (w,S0::bx b2 g::r1):=by
 show(bu GP (aa GP n) es (S0::bx b g::r)).i _=_
 rw[h]
 show((aa GP n f (bx b1 g::vs.map .h)).i _).i _=_
 rw[A];rfl
def HZ(h:bu GP (aa GP n) es (S0::bx b g::r)= .oK (vs,S0::bx b1 g::r1))(B:aa GP n f (bx b1 g::vs.map .h)= .oK (v,[bx b2 g]))(A:v.q=some w):ev GP (aa GP n) (.K (.fn f) [1] es) (S0::bx b g::r)= .oK (w,S0::bx b2 g::r1):=by
 show(bu GP (aa GP n) es (S0::bx b g::r)).i _=_
 rw[h]
 show((aa GP n f (bx b1 g::vs.map .h)).i _).i _=_
 rw[B]
 show(aD.d v.q).i _=_
 rw[A];rfl
def HX(h:bu GP (aa GP n) es (S0::bx b g::r)= .oK (vs,S0::bx b1 g::r1))(A:aa GP n f (bx b1 g::vs.map .h)= .oK (v,[bx b2 g]))(B:x.blt (S0::bx b2 g::r1).length=true):Ex n (S0::bx b g::r) (.h x true (.K (.fn f) [1] es)) ((S0::bx b2 g::r1).set x v):=by
 show((bu GP (aa GP n) es (S0::bx b g::r)).i _).i _=_
 rw[h]
 show((aa GP n f (bx b1 g::vs.map .h)).i _).i _=_
 rw[A]
 show(aV (S0::bx b2 g::r1) x v).i _=_
 rw[cq B];rfl
def F_(h:ev GP (aa GP n) e ah= .oK (v,env1))(A:(3:Nat).blt env1.length=true):Ex n ah (.n true [2,3] [(false,e),(true,.l [])]) ((env1.set 3 (.aj [])).set 2 (.h v)):=by
 show(((ev GP (aa GP n) e ah).i _).i _).i _=_
 rw[h]
 show((aV env1 3 (.aj [])).i _).i _=_
 rw[cq A]
 show((aV (env1.set 3 (.aj [])) 2 (.h v)).i _).i _=_
 rw[cq (by rw[eI];exact Nat.blt_eq.mpr (Nat.lt_trans (by decide) (Nat.blt_eq.mp A)))];rfl
end
noncomputable def iJ:List SV:=[.a,.a,.a,.a,.a,.a,.a,.a,.a,.a]
def J4(n)(S0)(b)(fl)(o k v)(r):Ex n (S0::bx b ⟨fl,o,k⟩::r) (.set 1 none (.d (.m (Int.ofNat 4))) (.d (.m (Int.ofNat v)))) (S0::bx b ⟨fl,v,k⟩::r):=.set (k:=4) (l:=[.m b.g,.m b.s,.m b.c,bv fl,nv o,nv k]) (v:=nv v) .d rfl .d (Nat.lt_of_sub_eq_succ rfl)
def OB(n)(S0)(b)(fl)(o k v)(r):Ex n (S0::bx b ⟨fl,o,k⟩::r) (.set 1 none (.d (.m (Int.ofNat 5))) (.d (.m (Int.ofNat v)))) (S0::bx b ⟨fl,o,v⟩::r):=.set (k:=5) (l:=[.m b.g,.m b.s,.m b.c,bv fl,nv o,nv k]) (v:=nv v) .d rfl .d (Nat.lt_of_sub_eq_succ rfl)
def Dd(p)(B)(K):(fc p B (.aj K)).q=some (pv (p.hd K) B):=rfl
def qr(k)(S0)(mg:g∈fW)(I:kd∈[aP,a_])(Q:mo<=4)(r)(H:BX (61+M) b):kO (λb' q=>BX M b') (λb' q=>pz g kd q) (λb' q=>ev GP (aa GP (k+13)) (.k 73 [1] [.d (.j kd),.d (.m (Int.ofNat mo)),.k 55 [1] [.i 11],.l []]) (S0::bx b g::r)= .oK (q.pl [],S0::bx b' g::r)):=by
 refine bB λU C=>?_;obtain⟨A,w,N,S,F⟩:=bU (k+12) g (m:=11) (by decide) (by decide) (show BX (1+(60+M)) b from H.le (zL rfl));obtain⟨D,v,E,⟨p,B,G,R,O,s,P⟩,L⟩:=sU k mg I Q S (.aj []) (M:=M) N;refine C ?_
 exact⟨D,⟨p,B,rM g⟩,E,⟨R,G,O,s,rfl⟩,HZ (by
  exact iy (Ev.d) (iy Ev.d (iy (mA (n:=k+13) (S0:=S0) (b:=b) (b1:=b) (r:=r) (r1:=r) (es:=[.i 11]) (vs:=[nv 11]) rfl F) (iy (Ev.op mW.j rfl) (es:=[]) rfl))):bu GP (aa GP (k+13)) [.d (.j kd),.d (.m (Int.ofNat mo)),.k 55 [1] [.i 11],.l []] (S0::bx b g::r)= .oK ([.j kd,nv mo,nv w,.aj []],S0::bx A g::r)) L (Dd p B [])⟩
inductive WA:GX->List KD->Nat->Prop
 |no:WA ⟨true,0,0⟩ [] 1
 |two {b m:KD} {i:Nat} (kb:pz ⟨false,1,0⟩ aP b) (km:pz ⟨false,0,0⟩ a_ m) (hi:i<8):WA gT [b,m] i
def Rf(C:ah[(3:Nat)]? =some (.aj l))(h:ev GP (aa GP n) e ah= .oK (v,env1))(A:env1[(3:Nat)]? =some (.aj l))(B:l.length.blt 100=true):Ex n ah (.I 3 none e) (env1.set 3 (.aj (l++[v]))):=by
 show(aD.d (eY ah 3 none)).i _=_
 rw[fL C]
 show(ev GP (aa GP n) e ah).i _=_
 rw[h]
 show(aD.d (eY env1 3 none)).i _=_
 rw[fL A]
 show(if l.length<10000 then aD.oK (Fl.a,iN env1 3 none (l++[v]))else .aA)=_
 rw[if_pos (Nat.lt_trans (Nat.blt_eq.mp B) (by decide)),nJ A]
def tB(n)(S0)(b)(g)(r):Ev n (S0::bx b g::r) (.o [.at 1 none (.i 3)]) (bv (!g.fl)):=.not (.at (k:=3) (l:=[.m b.g,.m b.s,.m b.c,bv g.fl,nv g.ow,nv g.kd]) rfl .d rfl)
def M7(n)(S0)(b)(g)(r):Ev n (S0::bx b g::r) (.at 1 none (.i 3)) (bv g.fl):=.at (k:=3) (l:=[.m b.g,.m b.s,.m b.c,bv g.fl,nv g.ow,nv g.kd]) rfl .d rfl
def Pt(k)(l:List Int):IV (λb g i C=>BX 800 b) (λb g i C=>WA g C i) (λb g i C=>aG GP (aa GP (k+13)) [bk 88 0,bk 88 1,bk 88 2] (.h (.aj (l.map .m))::.a::.a::.a::iJ)= .oK (.a,.h (.aj (l.map .m))::bx b g::.h (nv i)::.aj (cW C)::iJ)):=by
 obtain⟨b,E,G,Y⟩:=Ir (k+12) l
 have L:Ex (k+13) (.h (.aj (l.map .m))::.a::.a::.a::iJ) (bk 88 0) (.h (.aj (l.map .m))::bx b ⟨E,0,0⟩::.a::.a::iJ):=by
  show((aa GP (k+13) 54 [.h (.aj (l.map .m))]).i _).i _=_
  rw[Y];rfl
 have I:=M7 (k+13) (.h (.aj (l.map .m))) b ⟨E,0,0⟩ (.a::.a::iJ)
 induction E using aR
 ·refine bB λZ N=>?_;obtain⟨B,i,S,X,P⟩:=bU (k+12) ⟨false,0,0⟩ (m:=8) (by decide) (by decide) (show BX (1+999) b from G);obtain⟨D,A,O,Q,R⟩:=qr k (.h (.aj (l.map .m))) (g:=⟨false,1,0⟩) (.tail _ (.head _)) (kd:=aP) (.head _) (mo:=2) (by decide) (.h (nv i)::.aj []::iJ) (M:=930) (b:=B) (S.le (by decide));obtain⟨F,H,V,W,U⟩:=qr k (.h (.aj (l.map .m))) (g:=⟨false,0,0⟩) (.tail _ (.tail _ (.head _))) (kd:=a_) (.tail _ (.head _)) (mo:=1) (by decide) (.h (nv i)::.aj [A.pl []]::iJ) (M:=860) (b:=D) (O.le (by decide));refine N ?_
  exact⟨F,gT,i,[A,H],V.le (by decide),.two Q W X,Xs.u L (.u (F_ (n:=k+13) ((o7 (t:=.at 1 none (.i 3)) (a:=.i 1) (b:=.k 55 [1] [.i 8]) I).trans (mA (b:=b) (b1:=b) (r:=.a::.a::iJ) (r1:=.a::.a::iJ) (es:=[.i 8]) (vs:=[nv 8]) rfl P)) rfl) (.u (.z (tB (k+13) _ B ⟨false,0,0⟩ _) (.u (J4 (k+13) (.h (.aj (l.map .m))) B false 0 0 1 (.h (nv i)::.aj []::iJ)) (.u (by
   show((ev GP (aa GP (k+13)) (.op .aj _) _).i _).i _=_
   rw[(um (o:=.aj) R rfl)];rfl:Ex (k+13) (.h (.aj (l.map .m))::bx B ⟨false,1,0⟩::.h (nv i)::.aj []::iJ) (.h 3 true (.l [.k 73 [1] [.t aP,.d (.m (Int.ofNat 2)),.k 55 [1] [.i 11],.l []]])) (.h (.aj (l.map .m))::bx D ⟨false,1,0⟩::.h (nv i)::.aj [A.pl []]::iJ)) (.u (J4 (k+13) (.h (.aj (l.map .m))) D false 1 0 0 (.h (nv i)::.aj [A.pl []]::iJ)) (.u (Rf (n:=k+13) (l:=[A.pl []]) rfl U rfl rfl) (.u (OB (k+13) (.h (.aj (l.map .m))) F false 0 0 1 (.h (nv i)::.aj [A.pl [],H.pl []]::iJ)) .j)))))) .j))⟩
 ·exact⟨b,⟨true,0,0⟩,1,[],G.le (by decide),.no,Xs.u L (.u (F_ (n:=k+13) ((o7 (t:=.at 1 none (.i 3)) (a:=.i 1) (b:=.k 55 [1] [.i 8]) I).trans (show ev GP (aa GP (k+13)) (.i 1) _= .oK (nv 1,.h (.aj (l.map .m))::bx b ⟨true,0,0⟩::.a::.a::iJ)from rfl)) rfl) (.u (.z (tB (k+13) _ b ⟨true,0,0⟩ _) .j) .j))⟩
structure WB(g:GX)(i:Nat)(q:KD)(ks:List KD)(bF:Bool):Prop where
 w:Na q ks
 x:q.x=rM g
 xo:XO q.x (ks.map (·.x))
 kk:∀z∈ks,mV oK z
 oK:bF=false->∃h,IT h q.B.ag.length (q.B.ag.map (kP q.x false)) (q.B.aL.map mU) q.B.aB
 kd:bF=false->q.p.f=a_
 g:g=⟨true,0,0⟩/\i=1\/g=gT/\i<8
def AW(h:p.slots.length=3)(A:p.f∈[a_,bT]):Hx p ⟨[3],m⟩ o:=by
 obtain⟨C,n,D,B⟩:=p;obtain⟨s,t,u,rfl⟩:=Mine.Nu h;exact .e A
def pz.a(h:pz g kd q)(B:rM g∈dM)(A:Hx q.p q.x oK):mV oK q:=⟨h.h,h.s.a,h.x▸B,A⟩
def pz.c(h:pz ⟨false,1,0⟩ aP b):Hx b.p b.x oK:=by
 obtain⟨⟨D,n,G,C⟩,B,x⟩:=b;have E:x=⟨[2,3],0⟩:=h.x;have A:D=aP:=h.f;have F:C=sP aP:=h.sl;cases E;cases A;cases F;exact .d
def pz.e(h:pz ⟨false,0,0⟩ a_ b):Hx b.p b.x oK:=by
 rw[(h.x:b.x=⟨[3],0⟩)];exact AW (by rw[h.sl];rfl) (by rw[h.f];exact .head _)
def GA(C:p.f=a_)(A:yR p)(D:p.slots=sP a_)(s:rY g B):eJ (rM g) p B:=⟨A,by rw[C];exact .head _,D,s.a,λr m e=>absurd (e.symm.trans (s.oK r m)) fO,s.ck⟩
def WA.a(a:WA g D i)(t:eJ (rM g) p B)(C:A=false->∃h,IT h B.ag.length (B.ag.map (kP (rM g) false)) (B.aL.map mU) B.aB)(kd:A=false->p.f=a_):WB g i ⟨p,B,rM g⟩ D A:=by
 cases a with
 |no=>exact⟨.no t rfl,rfl,.no,gy _,C,kd,.inl ⟨rfl,rfl⟩⟩
 | @two b m i kb km hi=>
  have F:b.x=⟨[2,3],0⟩:=kb.x;have E:m.x=⟨[3],0⟩:=km.x;refine⟨.two t rfl kb km,rfl,?_,cu.mpr ⟨kb.a (.head _) kb.c,cu.mpr ⟨km.a (.tail _ (.head _)) km.e,gy _⟩⟩,C,kd,.inr ⟨rfl,hi⟩⟩;show XO (rM gT) [b.x,m.x];rw[F,E];exact .two
def WB.tp{g:GX}(h:WB g i q C E):Tp q C:=by
 have t:eJ q.x q.p q.B:=by cases h.w<;>assumption
 have A:q.x∈dM/\∃m,q.x=⟨[3],m⟩:=by
  rcases h.g with⟨e,-⟩|⟨e,-⟩
  ·rw[h.x,e];exact⟨.tail _ (.head _),_,rfl⟩
  ·rw[h.x,e];exact⟨.tail _ (.tail _ (.head _)),_,rfl⟩
 obtain⟨A,m,D⟩:=A;exact⟨⟨t.h,t.b,A,D▸AW (by rw[t.sl];rfl) t.f⟩,h.kk,h.xo⟩
def pF(l:List Int)(b:mK)(g:GX)(i:Nat)(K:List AV)(P:SV)(t:List SV):List SV:=.h (.aj (l.map .m))::bx b g::.h (nv i)::.h (.aj K)::P::t
noncomputable def nS:List SV:=[.a,.a,.a,.a,.a,.a,.a,.a]
def IJ(h:Ev n ah A (bv true))(C:ev GP (aa GP n) B ah= .oK (bv c,env1)):ev GP (aa GP n) (.and [A,B]) ah= .oK (bv c,env1):=by
 show bO GP (aa GP n) true _ _=_
 show(ev GP (aa GP n) A ah).i _=_
 rw[show ev GP (aa GP n) A ah=_ from h]
 show(ev GP (aa GP n) B ah).i _=_
 rw[C]
 induction c using aR<;>rfl
inductive LB(k:Nat)(l:List Int):Prop
 |mk (b:mK) (g:GX) (i:Nat) (q:KD) (ks:List KD) (bF:Bool) (hb:BX 700 b) (W:WB g i q ks bF) (e:aG GP (aa GP (k+13)) [bk 88 0,bk 88 1,bk 88 2,bk 88 3,bk 88 4,bk 88 5] (.h (.aj (l.map .m))::.a::.a::.a::iJ)= .oK (.a,pF l b g i (cW ks) (fc q.p q.B (.aj (cW ks))) (.h (bv bF)::nS)))
def WA.c(h:WA g A i):g∈fW:=by
 cases h
 ·exact .head _
 ·exact .tail _ (.tail _ (.tail _ (.head _)))
def WA.d(h:WA g B i):i<11:=by
 cases h with
 |no=>decide
 |two _ _ A=>exact zT A rfl
def WA.gT(h:WA g B i)(A:g.fl=false):g=gT:=by
 cases h with
 |no=>cases A
 |two=>rfl
def Qw(A:r<3)(h:ev GP (aa GP n) e ah= .oK (nv r,env1)):ev GP (aa GP n) (.q e (.i 0)) ah= .oK (bv (r==0),env1):=by
 show(ev GP (aa GP n) e ah).i _=_
 rw[h];obtain rfl |rfl |rfl:=Mine.R6 A<;>rfl
def Pr(k:Nat)(l:List Int):LB k l:=by
 obtain⟨b,g,i,A,Y,F,V⟩:=Pt k l;obtain⟨D,v,S,⟨p,B,O,d,y,s,P⟩,u⟩:=sU k F.c (kd:=a_) (.tail _ (.head _)) (mo:=4) (fh 4) F.d (.aj (cW A)) (M:=720) (b:=b) (Y.le (by decide));have E:∀(H:Bool) (C G:mK) (L:HP) (I:BD),BX 700 G->eG GP (aa GP (k+13)) (bk 88 4) (pF l D g i (cW A) (fc p B (.aj (cW A))) (.a::nS))= .oK (.a,pF l C g i (cW A) (fc p B (.aj (cW A))) (.h (bv H)::nS))->eG GP (aa GP (k+13)) (bk 88 5) (pF l C g i (cW A) (fc p B (.aj (cW A))) (.h (bv H)::nS))= .oK (.a,pF l G g i (cW A) (fc L I (.aj (cW A))) (.h (bv H)::nS))->WB g i ⟨L,I,rM g⟩ A H->LB k l:=λH C G L I X e j W=>⟨G,g,i,⟨L,I,rM g⟩,A,H,X,W,Xs.I (l1:=[bk 88 0,bk 88 1,bk 88 2]) V (.u (HX (n:=k+13) (b1:=b) (r:=.h (nv i)::.aj (cW A)::iJ) (r1:=.h (nv i)::.h (.aj (cW A))::iJ) (es:=[.t a_,.d (.m (Int.ofNat 4)),.r 2,.r 3]) (vs:=[.j a_,nv 4,nv i,.aj (cW A)]) (by kernel_rfl) u rfl:Ex (k+13) (.h (.aj (l.map .m))::bx b g::.h (nv i)::.aj (cW A)::iJ) (bk 88 3) (pF l D g i (cW A) (fc p B (.aj (cW A))) (.a::nS))) (.u e (.u j .j)))⟩;have U:∀C p B,eG GP (aa GP (k+13)) (bk 88 5) (pF l C g i (cW A) (fc p B (.aj (cW A))) (.h (bv false)::nS))= .oK (.a,pF l C g i (cW A) (fc p B (.aj (cW A))) (.h (bv false)::nS)):=λC p B=>Ex.z (b:=false) (.H rfl) .j;have Q:=GA O d y s
 induction hf:g.fl using aR
 ·have Z:=F.gT hf;obtain⟨C,r,R,h,f⟩:=bU (k+12) g (m:=3) (by decide) (by decide) (show BX (1+719) D from S)
  have e4:eG GP (aa GP (k+13)) (bk 88 4) (pF l D g i (cW A) (fc p B (.aj (cW A))) (.a::nS))= .oK (.a,pF l C g i (cW A) (fc p B (.aj (cW A))) (.h (bv (r==0))::nS)):=by
   have N:=tB (k+13) (.h (.aj (l.map .m))) D g (.h (nv i)::.h (.aj (cW A))::fc p B (.aj (cW A))::.a::nS);rw[hf]at N;exact o6 (IJ N (Qw h (mA (n:=k+13) (S0:=.h (.aj (l.map .m))) (b:=D) (b1:=D) (r:=.h (nv i)::.h (.aj (cW A))::fc p B (.aj (cW A))::.a::nS) (r1:=.h (nv i)::.h (.aj (cW A))::fc p B (.aj (cW A))::.a::nS) (es:=[.i 3]) (vs:=[nv 3]) rfl f):ev GP (aa GP (k+13)) (.q (.k 55 [1] [.i 3]) (.i 0)) (pF l D g i (cW A) (fc p B (.aj (cW A))) (.a::nS))= .oK (bv (r==0),pF l C g i (cW A) (fc p B (.aj (cW A))) (.a::nS))):ev GP (aa GP (k+13)) (.and [.o [.at 1 none (.i 3)],.q (.k 55 [1] [.i 3]) (.i 0)]) (pF l D g i (cW A) (fc p B (.aj (cW A))) (.a::nS))= .oK (bv (r==0),pF l C g i (cW A) (fc p B (.aj (cW A))) (.a::nS))) rfl
  cases hc:r==0
  ·rw[hc]at e4;exact E false C C p B (R.le (by decide)) e4 (U C p B) (F.a Q (λJ=>s.b) λJ=>O)
  ·rw[hc]at e4;subst Z;obtain⟨G,L,I,a,x,w⟩:=EW (k+10) (K:=.aj (cW A)) Q (P rfl) s.cd (M:=700) (b:=C) (R.le (by decide));refine E true C G L I a e4 (Ex.z (b:=true) (.H rfl) (.u ?_ .j)) (F.a x (λz=>by cases z) λz=>by cases z)
   show(((aa GP (k+13) 74 [bx C gT,fc p B (.aj (cW A))]).i _).i _).i _=_
   rw[show aa GP (k+13) 74 [bx C gT,fc p B (.aj (cW A))]=_ from w];rfl
 ·have N:=tB (k+13) (.h (.aj (l.map .m))) D g (.h (nv i)::.h (.aj (cW A))::fc p B (.aj (cW A))::.a::nS);rw[hf]at N;exact E false D D p B (S.le (by decide)) (.h (.U (.and (b:=false) (c:=true) N λz=>by cases z)) rfl:Ex (k+13) (pF l D g i (cW A) (fc p B (.aj (cW A))) (.a::nS)) (bk 88 4) (pF l D g i (cW A) (fc p B (.aj (cW A))) (.h (bv false)::nS))) (U D p B) (F.a Q (λJ=>s.b) λJ=>O)
def e9(l:List Int)(b:mK)(g:GX)(i:Nat)(K:List AV)(P:AV)(t:List SV):List SV:=.h (.aj (l.map .m))::bx b g::.h (nv i)::.h (.aj K)::.h P::t
def names:List (Tx×Nat):=[(Dh,42),(Dg,43),(Dl,45),(NA,46),(Dk,47),(Dj,41),(Di,39),(De,48)]
def qq:∀z∈names,z∈rg/\z.2∈pn:=by
 have:(names.map λz=>(rg.any λy=>y.1==z.1&&y.2==z.2)&&pn.any (· ==z.2))=names.map tt:=by kernel_rfl
 intro z m;refine d3 (ax this z m) λF A=>?_;refine lu F λy C e=>?_;refine d3 e λB G=>?_;exact lu A λu D E=>(⟨(Prod.ext (eq_of_beq B) (eq_of_beq G):y=z)▸C,eq_of_beq E▸D⟩)
def QT:IE:=.B (.k 56 [1] [.r 11]) [13] false .range [.L (.at 1 none (.i 3)) (.i 0) (.k 55 [1] [.i 3])] []
def rK(l:List Int)(b:mK)(g:GX)(i:Nat)(K:List AV)(P:AV)(a5 a6 a7 a8 a9 a10:SV)(A:SV):List SV:=e9 l b g i K P [a5,a6,a7,a8,a9,a10,.h (pE names),.a,A]
section
variable {l:List Int}{g:GX}{i:Nat}{K:List AV}{P:AV}{a5 a6 a7 a8 a9 a10:SV}
def yC(k:Nat):∀(m:Nat) (s:Int) (acc:List (Tx×Nat)) (A:SV) (M:Nat) (b:mK),BX (m+M) b->(∀z∈acc,z∈names)->∃(b':mK) (r:List (Tx×Nat)) (a:SV),BX M b'/\(∀z∈r,z∈names)/\r.length=acc.length+m/\compLoop (aN [13] false) (bO GP (aa GP (k+2)) true []) (ev GP (aa GP (k+2)) (.k 56 [1] [.r 11])) (d9 m s) (acc.map λq=>.j q.1) (rK l b g i K P a5 a6 a7 a8 a9 a10 A)= .oK (r.map λq=>.j q.1,rK l b' g i K P a5 a6 a7 a8 a9 a10 a):=by
 intro m
 induction m with
 |zero=>exact λs acc A M b B C=>⟨b,acc,A,B.le (gY _ _),C,rfl,rfl⟩
 |succ m N=>
  intro s acc A M b B C;refine bB λV F=>?_;obtain⟨E,v,O,L,I⟩:=jW k g (l:=names.map λq=>.j q.1) (List.cons_ne_nil _ _) (by decide:(8:Nat)<2^40) (show BX (1+(m+M)) b from B.le z1);refine bZ L λz S R=>?_;obtain rfl:=R;obtain⟨G,r,a,H,U,Q,D⟩:=N (s+1) (acc++[z]) (.h (.m s)) M E O (g0.mpr ⟨C,cu.mpr ⟨S,gy _⟩⟩);refine F (⟨G,r,a,H,U,by rw[Q,dc,qa];exact Fd,?_⟩);have e4:compLoop (aN [13] false) (bO GP (aa GP (k+2)) true []) (ev GP (aa GP (k+2)) (.k 56 [1] [.r 11])) (d9 (m+1) s) (acc.map λq=>.j q.1) (rK l b g i K P a5 a6 a7 a8 a9 a10 A)=(ev GP (aa GP (k+2)) (.k 56 [1] [.r 11]) (.h (.aj (l.map .m))::bx b g::(rK l b g i K P a5 a6 a7 a8 a9 a10 (.h (.m s))).tail.tail)).i λy=>compLoop (aN [13] false) (bO GP (aa GP (k+2)) true []) (ev GP (aa GP (k+2)) (.k 56 [1] [.r 11])) (d9 m (s+1)) ((acc.map λq=>.j q.1)++[y.1]) y.2:=rfl;rw[e4,(mA (n:=k+2) (S0:=.h (.aj (l.map .m))) (b:=b) (b1:=b) (r:=(rK l b g i K P a5 a6 a7 a8 a9 a10 (.h (.m s))).tail.tail) (r1:=(rK l b g i K P a5 a6 a7 a8 a9 a10 (.h (.m s))).tail.tail) (es:=[.r 11]) (vs:=[pE names]) (by kernel_rfl) I)];rw[List.map_append]at D;exact D
def Ez(k)(G:BX (4+M) b):∃(b':mK) (r:List (Tx×Nat)),BX M b'/\(∀z∈r,z∈names)/\r.length<=2/\ev GP (aa GP (k+2)) QT (rK l b g i K P a5 a6 a7 a8 a9 a10 .a)= .oK (pE r,rK l b' g i K P a5 a6 a7 a8 a9 a10 .a):=by
 refine bB λQ H=>?_;have B:=M7 (k+2) (.h (.aj (l.map .m))) b g (rK l b g i K P a5 a6 a7 a8 a9 a10 .a).tail.tail
 obtain⟨A,m,C,D,N⟩:=(by
  induction hf:g.fl using aR
  ·rw[hf]at B;obtain⟨A,r,C,E,e⟩:=bU (k+1) g (m:=3) (by decide) (by decide) (show BX (1+(3+M)) b from G.le (zL rfl));exact⟨A,r,C,Nat.le_of_lt_succ E,iy ((o7 B).trans (mA (b:=b) (b1:=b) (r:=(rK l b g i K P a5 a6 a7 a8 a9 a10 .a).tail.tail) (r1:=(rK l b g i K P a5 a6 a7 a8 a9 a10 .a).tail.tail) (es:=[.i 3]) (vs:=[nv 3]) rfl e)) (es:=[]) rfl⟩
  ·rw[hf]at B
   exact⟨b,0,G.le (zK rfl),by decide,iy ((o7 B).trans (Ev.d (c:=.m 0))) (es:=[]) rfl⟩:∃A m,BX (3+M) A/\m<=2/\bu GP (aa GP (k+2)) [.L (.at 1 none (.i 3)) (.i 0) (.k 55 [1] [.i 3])] (rK l b g i K P a5 a6 a7 a8 a9 a10 .a)= .oK ([nv m],rK l A g i K P a5 a6 a7 a8 a9 a10 .a))
 obtain⟨I,r,a,L,E,O,F⟩:=yC k (l:=l) (g:=g) (i:=i) (K:=K) (P:=P) (a5:=a5) (a6:=a6) (a7:=a7) (a8:=a8) (a9:=a9) (a10:=a10) m 0 [] .a M A (C.le (qb (zT D rfl) _)) (gy _);refine H (⟨I,r,L,E,by rw[O];exact(Nat.zero_add m).symm▸D,?_⟩)
 show(bu GP (aa GP (k+2)) _ (rK l b g i K P a5 a6 a7 a8 a9 a10 .a)).i _=_
 rw[N]
 show(aD.d (if(Int.ofNat m).natAbs<=10000 then some (d9 (Int.ofNat m).toNat 0)else none)).i _=_
 rw[if_pos (show(Int.ofNat m).natAbs<=10000 from az D (by decide))]
 show(c6 (compLoop _ _ _ (d9 m 0) [] (rK l A g i K P a5 a6 a7 a8 a9 a10 .a))).i _=_
 have F:compLoop (aN [13] false) (bO GP (aa GP (k+2)) true []) (ev GP (aa GP (k+2)) (.k 56 [1] [.r 11])) (d9 m 0) [] (rK l A g i K P a5 a6 a7 a8 a9 a10 .a)=_ :=F;rw[F];rfl
end
def Bi(h:bu GP (aa GP n) es ah= .oK (vs,env1))(A:aa GP n f (vs.map .h)= .oK (.h w,[])):ev GP (aa GP n) (.K (.fn f) [] es) ah= .oK (w,env1):=by
 show(bu GP (aa GP n) es ah).i _=_
 rw[h]
 show((aa GP n f (vs.map .h)).i _).i _=_
 rw[A];rfl
def WB.isSome{g:GX}(h:WB g i q D C)(A:C=false):(m7 (!(q.p.f==bT)) q.B.ag.length (q.B.ag.map (kP q.x false)) (q.B.aL.map mU) q.B.aB).isNone=false:=by
 obtain⟨f,H⟩:=h.oK A;obtain⟨s,e⟩:=H.run;rw[h.kd A,AD a_ (.tail _ (.head _)),e];rfl
def yb(B:i<8):∃z∈names,hZ GP .Q [pE names,nv i]=some (.j z.1):=by
 have A:i<names.length:=B;exact⟨names[i],List.getElem_mem A,qC (by rw[di,ij A];rfl:(names.map λq=>AV.j q.1)[i]? =some (.j names[i].1))⟩
def Ht(k:Nat)(l:List Int):aa GP (k+14) 88 [.h (.aj (l.map .m))]= .oK (.h (bv true),[]):=by
 refine bB λP0 U=>?_;obtain⟨H,g,i,q,A,E,XA,W,e0⟩:=Pr k l;have t:=W.tp;obtain⟨F,w,fC,G,ew⟩:=Gr (k+10) g (M:=600) (b:=H) (XA.le (by decide))
 have a7:bu GP (aa GP (k+13)) [.r 4,.r 6,.l []] (pF l F g i (cW A) (fc q.p q.B (.aj (cW A))) [.h (bv E),.h w.v,.a,.a,.a,.a,.a,.a,.a])= .oK ([q.pl (cW A),w.v,oT],e9 l F g i (cW A) (q.pl (cW A)) [.h (bv E),.h w.v,.a,.a,.a,.a,.a,.a,.a]):=by kernel_rfl
 have j:Ex (k+13) (pF l F g i (cW A) (fc q.p q.B (.aj (cW A))) [.h (bv E),.h w.v,.a,.a,.a,.a,.a,.a,.a]) (bk 88 7) (e9 l F g i (cW A) (q.pl (cW A)) [.h (bv E),.h w.v,.h ((q.tw w).pl (q_ w A)),.a,.a,.a,.a,.a,.a]):=o6 (Bi a7 (t.d G (k+7))) rfl;refine U ?_;generalize X:q.pl (cW A)=P at j;generalize Y:(q.tw w).pl (q_ w A)=LK at j;generalize R:q.co (cos A)=C;generalize Q:(q.tw w).co (jK w A)=D;have cC:=t.code (k+10);have cD:=t.g w (k+10);have S:=W.w.a G (k+4);have e:E=false->_ :=W.isSome;generalize m7 (!(q.p.f==bT)) q.B.ag.length (q.B.ag.map (kP q.x false)) (q.B.aL.map mU) q.B.aB=m at S e;rw[X,R]at cC;rw[Y,Q]at cD;rw[R,Q]at S;have d:Ex (k+13) (e9 l F g i (cW A) P [.h (bv E),.h w.v,.h LK,.h C,.h D,.a,.a,.a,.a]) (bk 88 9) (e9 l F g i (cW A) P [.h (bv E),.h w.v,.h LK,.h C,.h D,.h (yU m),.a,.a,.a]):=.h (.K (.u (.H rfl) .j) S.1) rfl;have Sj:Ev (k+13) (e9 l F g i (cW A) P [.h (bv E),.h w.v,.h LK,.h C,.h D,.h (yU m),.a,.a,.a]) (.or [.I (.r 10) [.ne] [.h 86 [.r 9]],.and [.q (.r 10) (.d (.j ⟨#[]⟩)),.o [.r 5]]]) (bv (false || (m.isNone&& !E))):=.Co (.or (.I (.H rfl) (.K (.u (.H rfl) .j) S.2) (Fm m).1) λJ=>.dI (.U (.and (.I (.H rfl) .d (Fm m).2) λJ=>.dI (.not (.H rfl)))))
 rw[(by
  induction E using aR
  ·rw[e rfl];rfl
  ·rw[Bool.not_true,Bool.and_false];rfl:(false || (m.isNone&& !E))=false)]at Sj
 have Sp:Ex (k+13) (e9 l F g i (cW A) P [.h (bv E),.h w.v,.h LK,.h C,.h D,.h (yU m),.a,.a,.a]) (bk 88 10) (e9 l F g i (cW A) P [.h (bv E),.h w.v,.h LK,.h C,.h D,.h (yU m),.a,.a,.a]):=.z Sj .j;generalize yU m=sm at d Sp;refine bB λP0 U=>?_
 obtain⟨z,mz,ez⟩:=yb (by
  rcases W.g with⟨-,h⟩|⟨-,h⟩
  ·rw[h];decide
  ·exact h:i<8)
 obtain⟨I,r,j8,hr,W6,er⟩:=Ez (k+11) (l:=l) (g:=g) (i:=i) (K:=cW A) (P:=P) (a5:=.h (bv E)) (a6:=.h w.v) (a7:=.h LK) (a8:=.h C) (a9:=.h D) (a10:=.h sm) (M:=500) (b:=F) (fC.le (by decide));have hz:∀y∈z::r,y∈names:=cu.mpr ⟨mz,hr⟩
 obtain⟨q1,s,o1,n1,k1,x1,O⟩:=Ip G (k+7) t.hq t.hk (z::r) (λy m=>(qq y (hz y m)).1) (λy m=>by
  refine bZ m λu mu bS=>?_;obtain rfl:=bS
  exact(qq u (hz u mu)).2)
 obtain⟨q2,f,o2,n2,k2,x2,L⟩:=zm G (k+6) t.hq t.hk;have V:=(t.nx o1 n1 k1 x1).alike G (k+6);have Z:=(t.nx o2 n2 k2 x2).alike G (k+6);have c:=t.b;have SH:=t.e G;have td:=t.told (k+11);have Sg:=t.f w (k+11);rw[R,Q]at O L;rw[R,X]at td;rw[Q,Y]at Sg;rw[X]at c;rw[Y]at SH;refine U ?_;generalize q1.co (cos s)=C1 at O V;generalize (q1.tw w).co (jK w s)=D1 at O V;generalize q2.co (cos f)=C2 at L Z;generalize (q2.tw w).co (jK w f)=D2 at L Z;have Si:Ev (k+13) (e9 l I g i (cW A) P [.h (bv E),.h w.v,.h LK,.h C,.h D,.h sm,.h (pE names),.h (pE (z::r)),.a]) (.and [.o [.at 1 none (.i 3)],.o [.h 87 [.h 51 [.r 8],.h 51 [.r 9],.r 6]]]) (bv (!g.fl&&false)):=.U (.and (tB (k+13) _ I g _) λJ=>.dI (.not (b:=true) (.K (.u (.K (.u (.H rfl) .j) L.1) (.u (.K (.u (.H rfl) .j) L.2) (.u (.H rfl) .j))) Z)));rw[Bool.and_false]at Si;have a:=(PD.aj (k:=8) (m:=300000) (N:=2) (cu.mpr ⟨c,cu.mpr ⟨SH,gy _⟩⟩) (fh 2):PD 9 600006 (.aj [P,LK])).repr (by decide) (by decide)
 refine aO (fl:=.C (.h (bv true))) rfl rfl (Xs.I (l1:=[bk 88 0,bk 88 1,bk 88 2,bk 88 3,bk 88 4,bk 88 5]) e0 (.u (o6 (mA (n:=k+13) (S0:=.h (.aj (l.map .m))) (b:=H) (b1:=H) (r:=(pF l H g i (cW A) (fc q.p q.B (.aj (cW A))) (.h (bv E)::nS)).tail.tail) (r1:=(pF l H g i (cW A) (fc q.p q.B (.aj (cW A))) (.h (bv E)::nS)).tail.tail) (es:=[]) (vs:=[]) rfl ew) rfl:Ex (k+13) (pF l H g i (cW A) (fc q.p q.B (.aj (cW A))) (.h (bv E)::nS)) (bk 88 6) (pF l F g i (cW A) (fc q.p q.B (.aj (cW A))) [.h (bv E),.h w.v,.a,.a,.a,.a,.a,.a,.a])) (.u j (.u (.s (.K (.u (.H rfl) .j) cC) (.K (.u (.H rfl) .j) cD) rfl rfl:Ex (k+13) (e9 l F g i (cW A) P [.h (bv E),.h w.v,.h LK,.a,.a,.a,.a,.a,.a]) (bk 88 8) (e9 l F g i (cW A) P [.h (bv E),.h w.v,.h LK,.h C,.h D,.a,.a,.a,.a])) (.u d (.u Sp (.u (by
  show eG GP (aa GP (k+13)) (bk 88 11) _=_
  kernel_rfl:Ex (k+13) (e9 l F g i (cW A) P [.h (bv E),.h w.v,.h LK,.h C,.h D,.h sm,.a,.a,.a]) (bk 88 11) (rK l F g i (cW A) P (.h (bv E)) (.h w.v) (.h LK) (.h C) (.h D) (.h sm) .a)) (.u (by
  exact o6 (jJ (o:=.G) (.g (.y (.H rfl) (.H rfl) ez) rfl:Ev (k+13) (rK l F g i (cW A) P (.h (bv E)) (.h w.v) (.h LK) (.h C) (.h D) (.h sm) .a) (.l [.x [.r 11,.r 2]]) (.aj [.j z.1])) er (by
   show(if([AV.j z.1]:List AV).length+(r.map λq=>AV.j q.1).length<=10000 then some (AV.aj ([.j z.1]++(r.map λq=>AV.j q.1)))else none)=_
   rw[if_pos (by rw[cz,qa];exact zT (i0 W6 1) rfl)];rfl:hZ GP .G [.aj [.j z.1],pE r]=some (pE (z::r)))) rfl:Ex (k+13) (rK l F g i (cW A) P (.h (bv E)) (.h w.v) (.h LK) (.h C) (.h D) (.h sm) .a) (bk 88 12) (e9 l I g i (cW A) P [.h (bv E),.h w.v,.h LK,.h C,.h D,.h sm,.h (pE names),.h (pE (z::r)),.a])) (.u (.z (.not (b:=true) (.K (.u (.K (.u (.H rfl) (.u (.H rfl) .j)) O.1) (.u (.K (.u (.H rfl) (.u (.H rfl) .j)) O.2) (.u (.H rfl) .j))) V):Ev (k+13) (e9 l I g i (cW A) P [.h (bv E),.h w.v,.h LK,.h C,.h D,.h sm,.h (pE names),.h (pE (z::r)),.a]) (.o [.h 87 [.h 53 [.r 8,.r 12],.h 53 [.r 9,.r 12],.r 6]]) (bv false)) .j) (.u (.z Si .j) (.C (.I (.g (.op (.u (.K (.u (.H rfl) .j) td) (.u (.K (.u (.H rfl) .j) Sg) .j)) rfl) a) (.g (.op (.u (.H rfl) (.u (.H rfl) .j)) rfl) a) (eq_str _):Ev (k+13) (e9 l I g i (cW A) P [.h (bv E),.h w.v,.h LK,.h C,.h D,.h sm,.h (pE names),.h (pE (z::r)),.a]) (.q (.op .repr [.l [.h 85 [.r 8],.h 85 [.r 9]]]) (.op .repr [.l [.r 4,.r 7]])) (bv true))))))))))))) rfl
end Mq
namespace Mine
open PySem PySem.W PyProof.Rows PySem.Calls
noncomputable def xm:List Nat:=[77,84,105,112,133,147,161,168,175,182,189,196,203,210,217,224,231,238,303,313,320,327,334,341,355,362,369,374,381,388,395,400,407,421,431,438,445,450,457,464,471,476,483,490,497,504,511,518,525,539,546,551,558,563,570,577,584,591,598,605,613,620,627,634,641,648,655,662,669,676,683,688,693,698,705,712,719,726,733,740,747,754,761,766,771,776,783,790,795]
def fnAt(f:Nat):Addr:=xm.getD f 795
noncomputable def iA(c:Nat):Addr:=[87,115,150,410].getD c 87
def lY(c:Nat):List Str:=MB.getD c []
def tP(K:Frag)(a:Addr):Bool:=(pR K a).isSome&&(K.lookup a).any λo=>o.cls==.type "function"
noncomputable def D6:Option (Option Value)->Bool |some none=>true |_ =>false
def D5(h:D6 o=true):o=some none:=by
 induction o using aF with
 |none=>cases h
 |some o=>induction o using aF with
  |none=>rfl
  |some _ =>cases h
def Cr(K:Frag)(nm:Str)(v:Value):Bool:=fA nm&&(match nsIn K mainGlobals nm with |some (some v')=>v'==v |some none=>bootBuiltins nm==some v&&nm !="__name__" |none=>false)
def iV(h:Cr g.K nm v=true):GV g nm v:=by
 refine d3 h λB A=>?_;refine⟨B,?_⟩
 induction e:nsIn g.K mainGlobals nm using aF with
 |none=>rw[e]at A;cases A
 |some o=>
  rw[e]at A
  induction o using aF with
  |none=>exact d3 A λC D=>(.inr ⟨rfl,eq_of_beq C,bne_iff_ne.mp D⟩)
  |some E=>exact .inl (eq_of_beq A▸rfl)
noncomputable def Ad{A:Type}(o:Option A)(p:A->Bool):Bool:=match o with |none=>true |some a=>p a
def nL{A:Type}{o:Option A}{p:A->Bool}{a:A}(h:Ad o p=true)(e:o=some a):p a=true:=by rw[e]at h;exact h
def GB(K:Frag):Bool:=
 xm.all (λa=>tP K a&&keepIn K (.ref a))&&
 (List.range 4).all (λc=>(lY c).all (λA=>plainGet K (iA c) A&&(hasDictIn K (iA c)&&D6 (findIn K (.ref (iA c)) A)&&(findIn K (.ref (iA c)) "__setattr__"==some (some (.builtin "object.__setattr__"))&&plainOver K (iA c)&&takerIn K (iA c) A==some none)))&&decide (lY c).Nodup&&decide ((lY c).length<=20))
def Bb(f):fnAt f∈xm:=by
 unfold fnAt;rw[kM]
 induction e:xm[f]? using aF with
 |none=>decide
 |some a=>exact fk e
def qv(h:¬c<4):lY c=[]:=by
 unfold lY;rw[kM,List.getElem?_eq_none (eH.mp h)];rfl
section
variable {K:Frag}(t:GB K=true)
include t
def wK(f):tP K (fnAt f)=true/\keepIn K (.ref (fnAt f))=true:=jo.mp (List.all_eq_true.mp (jo.mp t).1 _ (Bb f))
def wL(h:c<4):((lY c).all (λnm=>plainGet K (iA c) nm&&(hasDictIn K (iA c)&&D6 (findIn K (.ref (iA c)) nm)&&(findIn K (.ref (iA c)) "__setattr__"==some (some (.builtin "object.__setattr__"))&&plainOver K (iA c)&&takerIn K (iA c) nm==some none)))&&decide (lY c).Nodup&&decide ((lY c).length<=20))=true:=List.all_eq_true.mp (jo.mp t).2 c (List.mem_range.mpr h)
def sL(h:nm∈lY c):(plainGet K (iA c) nm&&(hasDictIn K (iA c)&&D6 (findIn K (.ref (iA c)) nm)&&(findIn K (.ref (iA c)) "__setattr__"==some (some (.builtin "object.__setattr__"))&&plainOver K (iA c)&&takerIn K (iA c) nm==some none)))=true:=by
 by_cases A:c<4
 ·exact List.all_eq_true.mp (jo.mp (jo.mp (wL t A)).1).1 _ h
 ·rw[qv A]at h;cases h
def wJ(c):(lY c).Nodup/\(lY c).length<=20:=by
 by_cases A:c<4
 ·have:=wL t A;exact⟨of_decide_eq_true (jo.mp (jo.mp this).1).2,of_decide_eq_true (jo.mp this).2⟩
 ·rw[qv A];exact⟨.nil,da _⟩
end
def Qq{K:Frag}(t:GB K=true){prog:Program}{w:World}{base:Heap}(fH:K.In base)(mg:∃mg,base.Ns mainGlobals mg)(mb:∃mb,base.Ns builtinsNs mb/\∀x:Str,x≠"__name__"->mb x=bootBuiltins x)(d7:base.NoLimit)(eP:∃C,base.Ns cStatics C/\C "sys.int_max_str_digits" =none):Gd where
 prog:=prog
 w:=w
 base:=base
 K:=K
 cls:=iA
 fld:=lY
 iH:=fnAt
 fH:=fH
 mg:=mg
 mb:=mb
 d7:=d7
 eP:=eP
 A:=λc G h=>by
  have:=sL t h;simp only[Bool.and_eq_true]at this;exact⟨this.1,this.2.1.1,D5 this.2.1.2⟩
 g:=λc=>(wJ t c).1
 T_:=λf=>by
  have:=(wK t f).1;refine d3 this λF B=>?_;obtain⟨fd,D⟩:=Option.isSome_iff_exists.mp F;obtain⟨o,A,E⟩:=qw D;rw[A]at B;exact⟨o,fd,fH _ _ A,eq_of_beq B,E⟩
noncomputable def iS:Value->Str |.str x _ =>x |_ =>⟨#[]⟩
noncomputable def ML:Data->Option (Array DictEntry×Nat)|.dict es n=>some (es,n)|_ =>none
def Bv{d:Data}{q:Array DictEntry×Nat}(h:ML d=some q):d= .dict q.1 q.2:=by
 induction d using Data.casesOn<;>cases h
 rfl
def kI(K:Frag)(d:Addr):List DictEntry:=((K.lookup d).bind λo=>ML o.data).elim [] λq=>q.1.toList
def Ub(K:Frag)(d:Addr):Bool:=(K.lookup d).any λo=>o.dict.isNone&&(o.cls==.type "dict"&&(o.slots.isEmpty&&(ML o.data).any λq=>q.1.toList.all (λe=>Value.isStrOf (iS e.key) e.key)&&decide ((q.1.toList.map λe=>iS e.key).Nodup)))
theorem tj:∀{l:List DictEntry},(∀e∈l,Value.isStrOf (iS e.key) e.key=true)->PySem.Pairs (PySem.strKind prog w) l (l.map λe=>(iS e.key,e.val))
 |[],_ =>.nil
 |e::l,h=>.cons (h e (.head _)) rfl (tj λe m=>h e (.tail _ m))
def tab_of(A:Ub g.K d=true)(B:(kI g.K d).map (·.hash)=(kI g.K d).map λe=>hashStr g.w (iS e.key))(hs:(d==sysModules)=false)
 (C:(gF (R:=λ(e:DictEntry) (q:Str×AV)=>iS e.key=q.1/\cf g (gJ g.base) e.val q.2) (λe q=>d8 (iS e.key=q.1) λh=>(BB g 3 q.2 e.val).map λr=>⟨h,r⟩) (kI g.K d) T).is=true):iF g d T:=by
 refine⟨hs,(kI g.K d).map λe=>(iS e.key,e.val),Heap.dictOf_iff.mpr ?_,?_⟩
 ·unfold Ub at A
  induction e:g.K.lookup d using aF with
  |none=>rw[e]at A;cases A
  |some o=>
  rw[e]at A;refine d3 (show(_ &&_)=true from A) λI A=>d3 A λG A=>d3 A λE A=>?_
  induction e2:ML o.data using aF with
  |none=>rw[e2]at A;cases A
  |some q=>
  rw[e2]at A;refine d3 (show(_ &&_)=true from A) λF D=>?_;have k:=List.all_eq_true.mp F
  have eL:kI g.K d=q.1.toList:=by
   unfold kI;rw[e]
   show(ML o.data).elim _ _=_
   rw[e2];rfl
  rw[eL]at B|-;refine⟨o,g.fH _ _ e,q.1,q.2,⟨eq_of_beq G,Option.isNone_iff_eq_none.mp I,Array.isEmpty_iff.mp E⟩,Bv e2,λe m=>⟨iS e.key,k e (Array.mem_def.mp m),List.map_inj_left.mp B e (Array.mem_def.mp m)⟩,tj k,?_⟩;rw[cH];exact of_decide_eq_true D
 ·have:=Ok.get _ C;clear C B A;generalize kI g.K d=l at this
  induction this with
  |j=>exact .j
  |u h _ H=>exact .u h H
noncomputable def Jk(k:Nat):String:=["int","bool","tuple","str"].getD k "int"
def Tc(K:Frag)(k:Nat):Bool:=["NoneType","bool","int","str","function","tuple"].all λt=>(kitOne K (.type t) (.type (Jk k))).isSome&&((kitOne K (.type t) (.type (Jk k)))==some ((t==Jk k) || (k==0&&t=="bool")))
def FL(C:k<4)(e:D4 k a=some w):w= .u (sJ a==Jk k || (k==0&&sJ a=="bool"))/\(sJ a)∈["NoneType","bool","int","str","function","tuple"]:=by
 have A:∀{x:String},(["NoneType","bool","int","str","function","tuple"].contains x)=true->x∈["NoneType","bool","int","str","function","tuple"]:=List.contains_iff_mem.mp;have E:=Nat.le_of_lt_succ C
 have D:∀{B:Nat} {l:List AV} {b:Bool},(if B=0 then some (AV.u b)else if 3<k/\k=B+2 then some (AV.u true)else none)=some w->w=AV.u b:=λ{B l b} e=>by
  split at e
  ·cases e;rfl
  ·exact absurd (fK e).1.1 (eH.mpr E)
 have z:k=0\/k=1\/k=2\/k=3:=(Nat.lt_or_eq_of_le (Nat.le_of_lt_succ C)).elim (λh=>(R6 h).imp id (·.imp id .inl)) λh=>.inr (.inr (.inr h));clear C
 rcases z with rfl |rfl |rfl |rfl<;>(
  induction a using Mine.AV.casesOn with
  |s c=>cases c<;>cases e<;>exact⟨rfl,A rfl⟩
  |n B l=>exact⟨D (l:=l) e,A rfl⟩)
def LS(A:k<4)(h:Tc g.K k=true):uV g k (.type (Jk k)):=LV A λa w e=>⟨_,(FL A e).1,eq_of_beq (jo.mp (List.all_eq_true.mp h _ (FL A e).2)).2⟩
def AS(c:Nat):Nat:=GP.a c
noncomputable def Lq:List ((Nat×Nat)×Nat):=[((0,3),3),((1,5),25),((2,5),31),((3,5),29),((4,5),27),((5,5),28),((6,5),26),((7,5),32),((8,5),30),((9,4),5),((10,2),1)]
def bL(h:(a&&b)=true):a=true:=(jo.mp h).1
def bR(h:(a&&b)=true):b=true:=(jo.mp h).2
def XR(K:Frag)(A:Nat->Addr)(f:Nat):Bool:=Ad (HU K A f) λB=>Cr K B (.ref (A f))
def X4(K:Frag)(C A:Nat->Addr)(c:Nat):Bool:=Ad (BA K C c) λB=>Cr K B (.ref (C c))&&(makesIn K (C c)&&(findIn K (.ref (C c)) "__init__"==some (some (.ref (A (AS c))))&&(typeIn K (.ref (A (AS c)))==some (.type "function")&&keepIn K (.ref (C c)))))
def Ww(K:Frag)(C A:Nat->Addr)(F:Nat->List Str)(p:(Nat×Nat)×Nat):Bool:=Ad FC[p.1.1]? λB=>decide (p.1.2=p.1.2-2+2)&&(plainGet K (C (p.1.2-2)) B&&(findIn K (.ref (C (p.1.2-2))) B==some (some (.ref (A p.2)))&&(isFn K (.ref (A p.2))&&decide (B∉F (p.1.2-2)))))
def Pz(K:Frag)(C:Nat->Addr)(k:Nat):Bool:=Ad (isNm K C k) λA=>if k<4 then Tc K k&&Cr K A (.type (Jk k))else Cr K A (.ref (C (k-4)))&&(plainGet K (C (k-4)) "__class__"&&(hasDictIn K (C (k-4))&&(findIn K (.ref (C (k-4))) "__class__"==some (some (.builtin "object.__class__"))&&(specialIn K (.builtin "object.__class__") "__get__"==some (some (.builtin "getset_descriptor.__get__"))&&(takesIn K (.builtin "object.__class__")==some true&&mroIn K (C (k-4)) (.type "object")==some true)))))
noncomputable def T7(K:Frag)(nm:Str):Value:=match nsIn K mainGlobals nm with |some (some v)=>v |_ =>.none
def T8(g:Gd)(i:Nat):Bool:=match FW[i]?,HN[i]? with
 |some nm,some a=>Cr g.K nm (T7 g.K nm)&&(BB g 4 a (T7 g.K nm)).is
 |none,_ =>true
 |_,_ =>false
noncomputable def KW:Str:=⟨#[69,70,70,69,67,84,83]⟩
noncomputable def KR:Str:=⟨#[79,80,69,82,65,78,68,83]⟩
noncomputable def KY:Str:=⟨#[66,97,100,82,111,119,115]⟩
def Uk(K:Frag)(C A:Nat->Addr)(F:Nat->List Str):Bool:=(List.range 89).all (XR K A)&&((List.range 4).all (X4 K C A)&&(Lq.all (Ww K C A F)&&((List.range 8).all (Pz K C)&&(Iu.all (λp=>Cr K p.1 p.2)&&(Cr K KW (.ref 239)&&(Cr K KR (.ref 304)&&Cr K KY (.ref 52)))))))
def G8(h:(List.range n).all p=true)(e:k<n):p k=true:=List.all_eq_true.mp h k (List.mem_range.mpr e)
def Hr{A B:Type}[BEq A][LawfulBEq A]{l:List (A×B)}{a:A}{b:B}(h:l.lookup a=some b):(a,b)∈l:=bD h
set_option tactic.hygienic true in
def QJ{g:Gd}(I:∀f,keepIn g.K (.ref (g.iH f))=true)(A:Uk g.K g.cls g.iH g.fld=true)(hs:∀c nm,nm∈g.fld c->Sets g c nm)(O:∀c,(g.fld c).length<=20)(V:(List.range 13).all (T8 g)=true)(Q:iF g 239 wd)(M:iF g 304 (xV vu))(R:pD g 52):Cx g 52 GP where
 NV:=HU g.K g.iH
 QN:=BA g.K g.cls
 Qp:=λi=>FW[i]?
 Lr:=λm=>FC[m]?
 PC:=isNm g.K g.cls
 yB:=KW
 Ae:=KR
 yK:=KY
 j:=λf nm h=>by
  have A:=bL A
  have:f<89:=by unfold HU at h;exact(fK h).1
  have:=nL (G8 A this) h;exact iV this
 keep:=I
 e:=λc nm h=>by
  refine bB λP G=>?_
  have:c<4:=by unfold BA at h;exact(fK h).1
  have:=nL (G8 (bL (bR A)) this) h;exact d3 this λC h=>d3 h λB h=>d3 h λD h=>d3 h λF E=>(G ⟨iV C,⟨B,eq_of_beq D,eq_of_beq F,E⟩⟩)
 My:=λi nm h=>by
  have:i<13:=aS h;have:=G8 V this;unfold T8 at this;rw[h]at this
  induction e2:HN[i]? using aF with
  |none=>rw[e2]at this;cases this
  |some a=>rw[e2]at this;exact d3 this λC B=>(⟨_,_,iV C,e2,Ok.get _ B⟩)
 h:=λm nm h k f S=>by
  refine bB λP G=>?_;have:=nL (List.all_eq_true.mp ((bL (bR (bR A)))) _ (Hr (l:=Lq) S)) h;exact d3 this λC h=>d3 h λB h=>d3 h λD h=>d3 h λF E=>(G ⟨k-2,of_decide_eq_true C,⟨B,eq_of_beq D,F,of_decide_eq_true E⟩,I f⟩)
 isOk:=λk nm h=>by
  have A:=bL (bR (bR (bR A)))
  have N:k<8:=by
   refine Nat.lt_of_not_le λq=>?_;unfold isNm BA at h;rw[if_neg (eH.mpr (az (by decide) q)),if_neg (eH.mpr (Nat.le_sub_of_add_le q))]at h;cases h
  have:=nL (G8 A N) h
  split at this
  ·rename_i H;exact d3 this λC B=>(⟨_,iV B,LS H C⟩)
  ·rename_i H;refine d3 this λC h=>d3 h λB h=>d3 h λD h=>d3 h λF h=>d3 h λE h=>d3 h λL U=>?_;refine⟨.ref (g.cls (k-4)),iV C,LU ((Nat.sub_add_cancel (eH.mp H)).symm) ⟨B,D,eq_of_beq F,eq_of_beq E,eq_of_beq L,eq_of_beq U⟩⟩
 l:=⟨239,iV (bL (bR (bR (bR (bR (bR A)))))),Q⟩
 Fx:=⟨304,iV (bL (bR (bR (bR (bR (bR (bR A))))))),M⟩
 b:=⟨iV (bR (bR (bR (bR (bR (bR (bR A))))))),R⟩
 bl:=λp m=>iV (List.all_eq_true.mp (jo.mp (jo.mp (jo.mp (jo.mp (jo.mp A).2).2).2).2).1 p m)
 sets:=hs
 MA:=O
def D8:∀(xs:List WData) (vs:List Value),WShape.hasItems R xs .int=true->WellAll P h vs xs->∃l:List Int,xs=l.map .int/\cm g V vs (l.map .m):=by
 intro xs
 induction xs with
 |nil=>exact λvs z w=>by cases w;exact⟨[],rfl,.j⟩
 |cons d xs C=>
  intro vs e w;unfold WShape.hasItems at e;obtain⟨A,D⟩:=jo.mp e;obtain⟨i,rfl⟩:=hasW_int A
  cases w with
  |cons w B=>
  obtain⟨l,rfl,r⟩:=C _ D B;cases w;exact⟨i::l,rfl,.u (show aZ g _ (.m i)from .m i _) r⟩
def Rj:mM 0 14 callerA [] []:=⟨rfl,trivial,rfl,rfl,by decide+kernel,by decide+kernel⟩
def Sb:¬Wr [] cA (λz=>[]) a:=λh=>h.elim (λA=>by obtain⟨_,m,_⟩:=A;exact(nomatch m)) λh=>h.elim id λA=>by obtain⟨_,m⟩:=A;exact nomatch m
def AA(co:fP g M (aa GP 14) 14 O)(D:g.base=s.heap){l:List Int}(I:s.heap.get? a=some (listOf vs.toArray 0))(L:cm g (gJ s.heap) vs (l.map .m))(G:l.length<=dF)
 (H:∀s',s.heap.StaysIn s'.heap->fb s s'->Q (.bool true) s'):wpAny (model g.prog g.w) callerA (PySem.call (.ref (g.iH 88)) [.ref a] []) Q E s:=by
 have V:∀b o,s.heap.get? b=some o->Vw (λz=>False) (Wr [] cA λz=>[]) s.heap b o:=λb o e=>⟨id,Sb,e⟩;refine wpAny_call ?_
 have h:=co Rj (⟨D▸V,λz q=>q.elim,λz m=>(nomatch m),λz q=>q.elim,λz z m=>(nomatch m),λz=>.nil,λz z z z m=>(nomatch m),λz z z=>rfl,λz m=>(nomatch m),λi P e N=>by
  induction i using dU with
  |zero=>cases e;exact⟨_,rfl,.f (.v (.mk (.aj (V _ _ I)) (show cm g _ vs _ from L.imp λz a=>cf.mono V a) (by rw[cz];exact G)))⟩
  |succ i=>cases e⟩:cU g [] (λz=>False) cA (At [.ref a]) (λz=>[]) [.f (.v (.aj (l.map .m)))] s.heap) rfl rfl (f:=88)
 rw[show aa GP 14 88 [SV.f (.v (.aj (l.map .m)))]= .oK (.h (Mq.bv true),[])from Mq.Ht 0 l]at h;refine codeAny_mono h λr s' q=>?_
 rcases r with e |(v |_ |_ |_)<;>first |exact q.elim |skip
 obtain⟨_,B,q⟩:=q;obtain⟨F,C,_,A⟩:=q;generalize B tI=oo at A
 cases A with
 |f x=>
  cases x with
  |v r=>cases(show aZ g _ (.u true)from r);exact H s' (λb o e=>(F b o Sb e).1) C
end Mine
namespace Mine
open PySem PySem.W PyProof.Rows PyProof
noncomputable abbrev dy:Program:=PySem.Challenge.rw_xm0359_01.row.toRowW.prog
abbrev iv:List Stmt:=behindTheImports dy
noncomputable def oM{A:Type}(n:Nat)(f:Nat->A):A:=Nat.rec (f 0) (λm z=>f (m+1)) n
inductive pO where |mk(os:List Obj)(es:List DictEntry)(tb:List Value)(g:Value)(a t:Nat)
noncomputable def tU{A:Type}(r:pO)(f:List Obj->List DictEntry->List Value->Value->Nat->Nat->A):A:=match r with |.mk a b c d e g=>f a b c d e g
noncomputable abbrev pM(xs:List Value):Obj:=⟨.type "tuple",none,.seq xs.toArray 0,#[]⟩
noncomputable abbrev rA(c:Value)(xs:List Value):Obj:=⟨c,none,.fields xs.toArray,#[]⟩
noncomputable abbrev yk(es:List DictEntry)(n:Nat):Obj:=⟨.type "dict",none,.dict es.toArray n,#[]⟩
noncomputable abbrev nj(n:Nat):Value:=.int (Int.ofNat n) 0
noncomputable def xe:List Str->Nat->List Value
 |[],_ =>[]
 |s::r,t=>.str s t::xe r (t+1)
noncomputable def tY(P:Params)(k:Str)(t:Nat)(v:Value):DictEntry:=⟨PyData.keyHash P k,.str k t,v⟩
def Ec(nm q:Str)(t a:Nat)(A B fl:Nat)(b:Bool)(v c m:Value)(u:Nat):Obj:=
 rA (.type "code") [.str nm t,.str q (t+1),.str "/claim/cut.py" (t+2),nj A,nj B,nj 0,nj 0,nj fl,.ref a,.bool b,nj 181,.ref (a+1),.none,v,c,m,nj u,nj A,.str "/claim/cut.py" (u+1)]
noncomputable def Hy:Expr->Const×List Expr×List (Option Expr)
 |.Constant c _ _ =>(c,[],[])
 |.Name x _ =>(.str x,[],[])
 |.Tuple es _ _ =>(.none,es,[])
 |.List es _ =>(.none,es,[])
 |.Dict ks vs _ =>(.none,vs,ks)
 |_ =>(.none,[],[])
noncomputable def TU:Const->Str |.str s=>s |_ =>⟨#[]⟩
noncomputable def NQ(e:Expr)(k:Nat):Bool:=Nat.beq e.ctorIdx k
def Mm(e:Expr)(n:List Nat)(t:Nat):Value×List Nat×Nat:=bif NQ e 23 then(.ref (n.headD 0),n.tail,t)else match(Hy e).1 with
 |.str s=>(.str s t,n,t+1)
 |.int i=>(.int i t,n,t+1)
 |_ =>(.none,n,t)
noncomputable def Mk:List Expr->List Nat->Nat->List Value×List Nat×Nat
 |[],n,t=>([],n,t)
 |e::r,n,t=>let x:=Mm e n t;let y:=Mk r x.2.1 x.2.2;(x.1::y.1,y.2)
def HI(e:Expr)(n:List Nat)(a t:Nat):Value×List Obj×List Nat×Nat×Nat:=bif NQ e 25 then let r:=Mk (Hy e).2.1 n t;(.ref a,[pM r.1],r.2.1,a+1,r.2.2)else let r:=Mm e n t;(r.1,[],r.2.1,a,r.2.2)
noncomputable def A6:List Expr->List Nat->Nat->Nat->List Value×List Obj×List Nat×Nat×Nat
 |[],n,a,t=>([],[],n,a,t)
 |e::r,n,a,t=>let x:=HI e n a t;let y:=A6 r x.2.2.1 x.2.2.2.1 x.2.2.2.2;(x.1::y.1,x.2.1++y.2.1,y.2.2)
noncomputable def HJ(P:Params)(d:Nat):List (Option Expr)->List Expr->List Nat->Nat->Nat->List DictEntry×List Obj×List Nat×Nat×Nat
 |k::ks,e::r,n,a,t=>let x:=HI e n a (t+1);let y:=HJ P d ks r x.2.2.1 x.2.2.2.1 (x.2.2.2.2+d);(tY P (k.elim ⟨#[]⟩ λk=>TU (Hy k).1) t x.1::y.1,x.2.1++y.2.1,y.2.2)
 |_,_,n,a,t=>([],[],n,a,t)
noncomputable def Ml(P:Params):Nat->List (Option Expr)->List Expr->List Nat->Nat->Nat->List DictEntry×List Obj×List Nat×Nat×Nat
 |0,_,_,n,a,t=>([],[],n,a,t)
 |f+1,ks,vs,n,a,t=>match Nat.ble 17 ks.length with
  |true=>let x:=HJ P 1 (ks.take 17) (vs.take 17) n (a+1) t;let y:=Ml P f (ks.drop 17) (vs.drop 17) x.2.2.1 x.2.2.2.1 x.2.2.2.2;(x.1++y.1,yk x.1 17::x.2.1++y.2.1,y.2.2)
  |false=>let x:=HJ P 0 ks vs n (a+1) t;(x.1,yk x.1 x.1.length::x.2.1,x.2.2.1,x.2.2.2.1,x.2.2.2.2+ks.length)
def Qa(P:Params)(e:Expr)(n:List Nat)(a t:Nat):Value×List Obj×List Nat×Nat×Nat:=
 bif NQ e 24 then let r:=A6 (Hy e).2.1 n a t;(.ref r.2.2.2.1,r.2.1++[⟨.type "list",none,.seq r.1.toArray 0,#[]⟩],r.2.2.1,r.2.2.2.1+1,r.2.2.2.2)
 else bif NQ e 6 then let r:=Ml P 9 (Hy e).2.2 (Hy e).2.1 n a t;(.ref a,yk r.1 r.1.length::r.2.1.tail,r.2.2)
 else HI e n a t
def Mj(nm q:Str)(A:Arguments)(D:List Stmt)(C:Scope)(B:Nat)(g dv:Value)(a t:Nat):List Obj×Nat×Nat×Nat:=
 let F (c:Value):FuncData->Obj:=λfd=>⟨c,none,.func fd,#[]⟩;let m:FuncData:={name:=nm,qualname:=q,params:=A,body:=.stmts D,scope:=C,globals:=0,closure:=[],defaults:=.none,kwdefaults:=.none};let f (c:Nat):Obj:=F (.type "function") {m with globals:=3,defaults:=dv,pyModule:=g,code:=.ref c}
 match localNames A C (.stmts D)with
 |none=>([pM [],rA .none [],F .none m,Ec nm q t a B A.args.length 3 true .none .none (.ref (a+2)) (t+3),f (a+3)],a+3,a+5,t+5)
 |some (l,c)=>let u:=t+3+l.length;([pM [],rA .none [],pM (xe l (t+3)),pM (xe c u),F .none m,Ec nm q t a B A.args.length 3 true (.ref (a+2)) (.ref (a+3)) (.ref (a+4)) (u+c.length),f (a+5)],a+5,a+7,u+c.length+2)
noncomputable def Me(l:Nat):List Nat:=match Nat.ble l 99 with
 |true=>[175,182,189,182,196,203,210,217,224,231,238]
 |false=>[464,504,511,518,476,483,490,525]
def AX(x:pO)(k:Value->Nat->Nat->pO):pO:=tU x λC B F g a t=>oM a λa=>oM t λt=>tU (k g a t) λA D E g a t=>.mk (C++A) (B++D) (F++E) g a t
def L_(P:Params)(q:Str->Str)(g:Value)(a t:Nat):Stmt->pO
 |.FunctionDef nm ar bd _ _ _ sc _ _ p=>
  let d:=A6 ar.defaults [] a t
  AX (match d.1 with |[]=>.mk [] [] [] .none a d.2.2.2.2 |x=>.mk (d.2.1++[pM x]) [] [] (.ref d.2.2.2.1) (d.2.2.2.1+1) d.2.2.2.2) λv a t=>
  let o:=Mj nm (q nm) ar bd sc p.line g v a t
  .mk o.1 [tY P nm o.2.2.2 (.ref (o.2.1+1))] [nj p.line,nj p.col,.ref o.2.1] g o.2.2.1 (o.2.2.2+1)
 |.Assign ts v p=>let d:=Qa P v (Me p.line) a t
  match d.1 with
   |.str ..=>.mk [] [] [] d.1 a (t+2)
   |_ =>.mk d.2.1 [tY P (TU (Hy (ts.headD v)).1) d.2.2.2.2 d.1] [] g d.2.2.2.1 (d.2.2.2.2+1)
 |_ =>.mk [] [] [] g a t
noncomputable def L9(P:Params)(q:Str->Str):List Stmt->Value->Nat->Nat->pO
 |[],g,a,t=>.mk [] [] [] g a t
 |s::r,g,a,t=>AX (L_ P q g a t s) (L9 P q r)
noncomputable def Mr(l:Nat):List Value×List Value×String×List Value×Nat:=match Nat.beq l 5,Nat.beq l 10 with
 |true,_ =>([.type "ValueError"],[.type "ValueError",.type "Exception",.type "BaseException",.type "object"],"ValueError.__new__",[.ref 52],1)
 |_,true=>([.ref 39],[.ref 39,.type "ValueError",.type "Exception",.type "BaseException",.type "object"],"ValueError.__new__",[],0)
 |_,_ =>([],[.type "object"],"object.__new__",[],2)
def PV(P:Params)(g:Value)(a t:Nat):Stmt->pO
 |.ClassDef nm _ _ bd _ _ _ _ _ ss p=>let i:=Mr p.line
  let e (s:String) (t:Nat) (v:Value):=tY P (Str.ofString s) t v;let D:Value:=.type "builtin_function_or_method"
  let b:Option Value:=match i.1 with |[]=>none |_ =>some (.ref a)
  let L:List Value:=match i.1 with |[]=>i.2.1 |x=>x
  tU (L9 P (λx=>nm++"."++x) bd g (a+7) (t+12)) λI H N z c u=>oM c λc=>oM u λu=>
  let k:=u+ss.length;let h:=i.2.2.2.2;let w:=c+h;let A:Value:=.ref (c+2);let C:=e "__module__" (t+7) g;let B:=e "__firstlineno__" (t+11) (.int (Int.ofNat p.line) (t+10))::H++[e "__static_attributes__" k (.ref c)];let F (s:String) (d:Nat) (v:List Value):Obj:=rA (.type "getset_descriptor") (.str (Str.ofString s) (k+d)::A::v);let E (d a:Nat):=(F "__weakref__" d [.builtin "ExceptionGroup.__weakref__",.none],e "__weakref__" (k+d+1) (.ref a))
  let G:List (Obj×DictEntry):=match h with
   |0=>[]
   |1=>[E 1 (c+3)]
   |_ =>[(F "__dict__" 1 [.builtin "function.__dict__",.builtin "function.__dict__#set"],e "__dict__" (k+2) (.ref (c+3))),E 3 (c+4)]
  let M:=C::B++G.map (·.2)++[e "__doc__" (k+h+h+1) .none]
  .mk ([pM i.1,rA D [.builtin "type.__prepare__",.type "type"],yk (C::e "__qualname__" (t+9) (.str nm (t+8))::B) (B.length+2),pM [],rA .none N,
   Ec nm nm (t+2) (a+3) p.line 0 0 false .none .none .none (t+5),⟨.type "frame",none,.plain,#[some (.ref (a+5)),some (.ref 3),some (.ref (a+2)),none,some g,none,some (.ref 0)]⟩]
   ++I++[pM (xe ss u),yk M (h+2),⟨.type "type",none,.cls {name:=nm,bases:=L,mro:=A::i.2.1,ns:=c+1,qualname:=nm,subclasses:=i.2.2.2.1},#[b,none,some (.str nm t),some (.str nm (t+8)),some (.builtin i.2.2.1),some (.bool true)]⟩]
   ++G.map (·.1)++[rA (.type "super") [A,A,A],rA D [.builtin "object.__init_subclass__",A]])
   [tY P nm (k+h+h+3) A] [nj p.line,nj p.col,.ref (a+5)] g (w+5) (k+h+h+4)
 |s=>L_ P id g a t s
noncomputable def L8(P:Params):List Stmt->Value->Nat->Nat->pO
 |[],g,a,t=>.mk [] [] [] g a t
 |s::r,g,a,t=>AX (PV P g a t s) (L8 P r)
def AY(P:Params)(n:Nat):pO:=L8 P (iv.take n) (.str "__main__" 164) 15 187
def tX(P:Params)(r:pO):List Obj:=tU r λB A C g z z=>
 [boot_o_0 P,boot_o_1 P,boot_o_2 P,match(boot_o_3 P).data with |.dict e k=>yk ((match e.toList with |x::r=>{x with val:=g}::r |_ =>[])++A) (k+A.length)|_ =>default,boot_o_4 P,boot_o_5 P,boot_o_6 P,boot_o_7 P,boot_o_8 P,boot_o_9 P,boot_o_10 P,
  pM [],rA .none C,Ec "<module>" "<module>" 182 11 1 0 0 false .none .none .none 185,⟨.type "frame",none,.plain,#[some (.ref 13),some (.ref 3),some (.ref 3),none,some (.str "__main__" 164),none,some (.ref 0)]⟩]++B
end Mine
namespace Mine
open PySem PySem.W PyProof.Rows
noncomputable def A7:List Obj->List Obj
 |x::_ ::r=>x::A7 r
 |r=>r
noncomputable def Oj:Nat->List Obj->BT
 |f+1,v::r=>.node v (Oj f (A7 r)) (Oj f (A7 r.tail))
 |_,_ =>.nil
noncomputable def Po:Life:=⟨[],[],[],0,[],[],false,#[],[],0,false,false,false,0,[2000,10,10],false,0,true,[],[],0,false⟩
def yz:Env:={scope:=dy.main.scope,locals:=mainNs,globals:=mainNs,cells:=[],code:=.ref 13,frame:=some 14}
abbrev Cw:Code:=.body iv yz
noncomputable abbrev nk:Pos:=⟨0,0,0,0⟩
def VL:Stmt->Pos
 |.FunctionDef _ _ _ _ _ _ _ _ _ p=>p
 |.ClassDef _ _ _ _ _ _ _ _ _ _ p=>p
 |.Assign [.Name _ p] _ _ =>p
 |_ =>nk
def Jd:Nat->Pos
 |0=>nk
 |n+1=>match iv.drop n with |s::_ =>VL s |_ =>nk
def rB(P:Params)(k:Nat)(os:OsState):SharedT:=tU (AY P k) λo e b g a t=>oM a λa=>oM t λt=>⟨Oj 11 (tX P (.mk o e b g a t)),a,Po,#[],⟨0,0,0,0⟩,t,os⟩
def fY(w:World)(i j:Nat):Prop:=(λA=>segRunT treeTable dy w 11 (some (.ref 6)) 1 1500 (rB w.params i A) (piecesOf ((iv.drop i).take (j-i)) yz Cw (Jd i) [topFrame nk]))=λA=>some (.next,rB w.params j A,Cw,Jd j)
def sq{w:World}{i j:Nat}(h:(λos=>Fast.tw10110043849684766642 Fast.tw14364793385576792824 dy w 11 (some (.ref 6)) 1 1500 (rB w.params i os) (piecesOf ((iv.drop i).take (j-i)) yz Cw (Jd i) [topFrame nk]))=λos=>some (.next,rB w.params j os,Cw,Jd j)):fY w i j:=by
 unfold fY;rw[Fast.te10110043849684766642,Fast.te14364793385576792824];exact h
def V1(w:World):fY w 0 4:=by exact sq (by kernel_rfl)
def VZ(w:World):fY w 4 13:=by exact sq (by kernel_rfl)
def VY(w:World):fY w 13 14:=by exact sq (by kernel_rfl)
def VX(w:World):fY w 14 15:=by exact sq (by kernel_rfl)
def VW(w:World):fY w 15 19:=by exact sq (by kernel_rfl)
def VV(w:World):fY w 19 28:=by exact sq (by kernel_rfl)
def VQ(w:World):fY (w.withFollow "special-get-raises" false) 28 29:=by exact sq (by kernel_rfl)
def VN(w:World):fY (w.withFollow "special-get-raises" true) 28 29:=by exact sq (by kernel_rfl)
def VU(w:World):fY w 28 29:=byRow2 "special-get-raises" (P:=λw=>fY w 28 29) VQ VN w
def VT(w:World):fY w 29 30:=by exact sq (by kernel_rfl)
def VP(w:World):fY (w.withFollow "special-get-raises" false) 30 31:=by exact sq (by kernel_rfl)
def VM(w:World):fY (w.withFollow "special-get-raises" true) 30 31:=by exact sq (by kernel_rfl)
def VS(w:World):fY w 30 31:=byRow2 "special-get-raises" (P:=λw=>fY w 30 31) VP VM w
def VR(w:World):fY w 31 36:=by exact sq (by kernel_rfl)
def O1(w:World):fY w 36 37:=by exact sq (by kernel_rfl)
def O0(w:World):fY w 37 53:=by exact sq (by kernel_rfl)
def OZ(w:World):fY w 53 66:=by exact sq (by kernel_rfl)
def OY(w:World):fY w 66 79:=by exact sq (by kernel_rfl)
def OX(w:World):fY w 79 92:=by exact sq (by kernel_rfl)
def OW(w:World):fY w 92 100:=by exact sq (by kernel_rfl)
noncomputable abbrev oL:OpenLaw:=PySem.Challenge.rw_xm0359_01
noncomputable def NL:Nat->List Obj->Frag
 |_,[]=>[]
 |n,o::r=>(n,o)::oM (n+1) λn=>NL n r
def KO(P:Params):Frag:=NL 0 (tX P (AY P 100))
def u5(P:Params):Heap:=⟨(tX P (AY P 100)).toArray,Po⟩
def FV(P:Params):List.range 796=(KO P).map (·.1):=by kernel_rfl
def nq:Hook:=kHook KO (List.range 796) FV
theorem AF(L:Life):∀(l p:List Obj) (n:Nat),n=p.length->(∀o∈l,o.isFreed=false)->(NL n l).map (λx=>(⟨(p++l).toArray,L⟩:Heap).get? x.1)=(NL n l).map λx=>some x.2
 |[],_,_,_,_ =>rfl
 |o::r,p,n,h,f=>by
  have A:=AF L r (p++[o]) (n+1) (by rw[h,dc];rfl) λx m=>f x (.tail _ m);rw[iC]at A;refine List.cons_eq_cons.mpr ⟨Heap.get?_some_iff.mpr ⟨?_,f o (.head _)⟩,A⟩
  show(p++o::r).toArray[n]? =some o
  rw[List.getElem?_toArray,h,pw (fh _),Nat.sub_self];rfl
def gQ:Program:={dy with main:={dy.main with body:=[71,58,37,30,28,2].foldl List.eraseIdx iv}}
noncomputable def tK:List Str:=["GemError","EFFECTS","OPERANDS","check_rows","PASSES","_law_bare"]
def Eh(w:World)(os:OsState)(k i:Nat):Prop:=topRun treeTable dy w 11 (some (.ref 6)) (1500*k+2) (rB w.params i os).abs (restOf (iv.drop i) yz Cw (Jd i) [topFrame nk])=some ⟨u5 w.params,#[],⟨0,0,0,0⟩,1578,os⟩
def f_{w:World}{os:OsState}{i k:Nat}(j:Nat)(A:i<=j)(h:fY w i j)(x:Eh w os k j):Eh w os (k+1) i:=by
 have e:iv.drop i=(iv.drop i).take (j-i)++iv.drop j:=by
  have:=(List.take_append_drop (j-i) (iv.drop i)).symm
  rwa[List.drop_drop,Nat.add_sub_cancel' A]at this
 unfold Eh;rw[e,show 1500*(k+1)+2=1500+(1500*k+2)by omega];exact piece_app (segRun_of (congrFun h os)) x
def Ol(w:World):(λos=>topGo treeTable dy w 11 (some (.ref 6)) 12 ⟨boot_heap w.params,#[],boot_drawn,boot_toks,os⟩ (topStub dy))=λos=>some ((rB w.params 0 os).abs,⟨denote treeTable Cw,Cw,nk,[topFrame nk]⟩):=by kernel_rfl
def QX(w:World):(λos=>segRun treeTable dy w 11 (some (.ref 6)) 1 1 (rB w.params 0 os).abs (blockOf iv yz Cw nk [topFrame nk]))=λos=>some (.next,(rB w.params 0 os).abs,Cw,nk):=by kernel_rfl
def Qx(w:World):(λos=>topRun treeTable dy w 11 (some (.ref 6)) 2 (rB w.params 100 os).abs (restOf (iv.drop 100) yz Cw (Jd 100) [topFrame nk]))=λos=>some ⟨u5 w.params,#[],⟨0,0,0,0⟩,1578,os⟩:=by kernel_rfl
def Rg(w:World)(os:OsState):Eh w os 16 0:=
 f_ 4 (by decide) (V1 w)<|f_ 13 (by decide) (VZ w)<|f_ 14 (by decide) (VY w)<|f_ 15 (by decide) (VX w)<|f_ 19 (by decide) (VW w)<|f_ 28 (by decide) (VV w)<|f_ 29 (by decide) (VU w)<|f_ 30 (by decide) (VT w)<|f_ 31 (by decide) (VS w)<|f_ 36 (by decide) (VR w)<|f_ 37 (by decide) (O1 w)<|f_ 53 (by decide) (O0 w)<|f_ 66 (by decide) (OZ w)<|f_ 79 (by decide) (OY w)<|f_ 92 (by decide) (OX w)<|f_ 100 (by decide) (OW w)<|congrFun (Qx w) os
def OM(w:World)(os:OsState):topRun treeTable dy w 11 (some (.ref 6)) 24015 ⟨boot_heap w.params,#[],boot_drawn,boot_toks,os⟩ (topStub dy)=some ⟨u5 w.params,#[],⟨0,0,0,0⟩,1578,os⟩:=
 go_top (n:=12) (N:=24003) (congrFun (Ol w) os) (piece_block (n:=1) (N:=24002) (congrFun (QX w) os) (Rg w os))
def Qr(P:Params):(tX P (AY P 100)).all (λo=> !o.isFreed)=true:=by kernel_rfl
def O'(w:World)(os:OsState):nq.obs ⟨u5 w.params,#[],⟨0,0,0,0⟩,1578,os⟩=nq.val w:=by
 show(List.range 796).map _=_
 rw[FV w.params,cH]
 exact AF Po (tX w.params (AY w.params 100)) [] 0 rfl λo m=>by simpa using List.all_eq_true.mp (Qr w.params) o m
abbrev sO(w:World)(os:OsState):Shared:=⟨u5 w.params,#[],⟨0,0,0,0⟩,1578,os⟩
def MO{B C D:Type}{a A:B}{b b':C}{r r':D}(x:(a,b)=(A,b'))(y:r=r'):(a,b,r)=(A,b',r'):=by cases x;cases y;rfl
def Vl(w:World)(os:OsState):(seen ((recsOf gQ).map (·.name)) (ownsOf gQ) [] {sO w os with gens:=#[]},(sO w os).heap.bltView)=(expectedOf gQ,bltViewBooted):=by kernel_rfl
def Vr(w:World)(os:OsState):(sO w os).heap.keysOk (looseW gQ tK) ((recsOf gQ).map (·.name)) ((litsOf gQ).map (·.1)) ((clssOf gQ (looseW gQ tK)).map (·.name))=true:=by kernel_rfl
def Vq(w:World)(os:OsState):(sO w os).heap.accountedOkI (importedModules dy.main.body)=true:=by kernel_rfl
def Vp(w:World)(os:OsState):((sO w os).heap.isNs mainGlobals,(sO w os).heap.isNs builtinsNs,tablesOk gQ (sO w os).heap)=(true,true,true):=by kernel_rfl
def Vo(w:World)(os:OsState):(xlAt gQ [] (sO w os)&&recOk (RowW.records oL.row.toRowW) (sO w os),(if true then(sO w os).gens.size==0 else !leftWithCleanup (sO w os).gens),tabsOk gQ (sO w os))=(true,true,true):=by kernel_rfl
def Vs{a b c d e f g t:Bool}(h1:a=true)(A:b=true)(B:(c,d,e)=(true,true,true))(C:(f,g,t)=(true,true,true)):(a&&b&&c&&d&&e&&f&&g,t)=(true,true):=by
 cases h1;cases A;cases B;cases C;rfl
def Vk(w:World)(os:OsState):((sO w os).heap.keysOk (looseW gQ tK) ((recsOf gQ).map (·.name)) ((litsOf gQ).map (·.1)) ((clssOf gQ (looseW gQ tK)).map (·.name))&&(sO w os).heap.accountedOkI (importedModules dy.main.body)&&(sO w os).heap.isNs mainGlobals&&(sO w os).heap.isNs builtinsNs&&tablesOk gQ (sO w os).heap&&(xlAt gQ [] (sO w os)&&recOk (RowW.records oL.row.toRowW) (sO w os))&&(if true then(sO w os).gens.size==0 else !leftWithCleanup (sO w os).gens),tabsOk gQ (sO w os))=(true,true):=
 Vs (Vr w os) (Vq w os) (Vp w os) (Vo w os)
def Vj(w:World)(os:OsState):(pinSeenD gQ (drecsOf gQ) (sO w os),plainSeenE gQ (looseW gQ tK) (sO w os),plainSeenD gQ tK (sO w os),wideSeen gQ (sO w os),clsSeenW gQ tK (sO w os))=(pinGoodD (drecsOf gQ),plainGoodE gQ (looseW gQ tK),plainGoodD gQ tK,wideGood gQ,clsGoodW gQ tK):=by kernel_rfl
def J7(w:World)(os:OsState):openSeen gQ tK (importedModules dy.main.body) (λs=>xlAt gQ [] s&&recOk (RowW.records oL.row.toRowW) s) true ⟨u5 w.params,#[],⟨0,0,0,0⟩,1578,os⟩=openGood gQ tK:=by
 unfold openSeen openGood;exact MO (Vl w os) (MO (Vk w os) (Vj w os))
def JX(w:World)(os:OsState):(staticsOk (importedModules dy.main.body) (boot_heap w.params) (u5 w.params)&&namesBound dy (u5 w.params)&&gensDone ⟨u5 w.params,#[],⟨0,0,0,0⟩,1578,os⟩&&laidKept (boot_heap w.params) (u5 w.params))=true:=by kernel_rfl
def O6:opening dy=plainProg dy.main.scope.names:=by kernel_rfl
def Qu:∀s,fenceModules? dy s=some s:=λz=>by kernel_rfl
def Ox(w:World):((boot_heap w.params).isNs mainGlobals&&(#[]:Array GenState).size==0,(boot_heap w.params).objs.size,(boot_heap w.params).nsMap mainGlobals "__annotations__")=(true,11,some (.ref 6)):=by kernel_rfl
def Hq(w:World):(λos=>((staticsOk (importedModules dy.main.body) (boot_heap w.params) (u5 w.params)&&namesBound dy (u5 w.params)&&gensDone ⟨u5 w.params,#[],⟨0,0,0,0⟩,1578,os⟩&&laidKept (boot_heap w.params) (u5 w.params)),openSeen gQ tK (importedModules dy.main.body) (λs=>xlAt gQ [] s&&recOk (RowW.records oL.row.toRowW) s) true ⟨u5 w.params,#[],⟨0,0,0,0⟩,1578,os⟩,nq.obs ⟨u5 w.params,#[],⟨0,0,0,0⟩,1578,os⟩))=λz=>(true,openGood gQ tK,nq.val w):=funext λos=>by rw[JX w os,J7 w os,O' w os]
def LL:LeftO dy gQ tK (λs=>xlAt gQ [] s&&recOk (RowW.records oL.row.toRowW) s) nq.obs nq.val 24015:=LeftO.of_pieces
 (boot_open O6 (by decide) Qu) Ox OM (by decide) Hq
end Mine
namespace Mine
open PySem PySem.W PyProof.Rows PySem.Calls
set_option maxHeartbeats 4000000 in
def U5:oL.wellSaid=true:=by
 unfold OpenLaw.wellSaid OpenRow.wellSaid OpenRow.partSaid looksOpen;rw[Fast.te8377067652309620493,Fast.te8326940854005059898,Fast.te17119622794617984870,Fast.te18344453789297297638,Fast.te10501279942588096481,Fast.te8179353310426384613,Fast.te16286561074155671207,Fast.te797321630700447069,Fast.te6984425678791042302,Fast.named_eq]
 repeat' with_reducible refine look_both ?_ ?_
 all_goals decide+kernel
def M3:dy.bare:=⟨rfl,rfl,rfl,rfl,rfl,by decide+kernel⟩
def HF(h:∀d A,defOf gQ oL.row.name=some (d,A)->WalkO gQ tK (XL gQ []) nq.says oL.row.toRowW d A λf vs=>PySem.call f vs):oL.Holds:=holds_law U5 λB=>
 holds_open (q:=gQ) (loose:=tK) (Xt:=λs=>xlAt gQ [] s&&recOk (RowW.records oL.row.toRowW) s) (XP:=XL gQ []) (Yf:=nq.obs) (Ya:=nq.val) (YP:=nq.says) (N:=24015) LL nq.of nq.keeps (λs e=>xl_of s (jo.mp e).1) XL.keeps (by rfl) (by rfl) (by rfl) (λs e=>recFacts_of (jo.mp e).2) (by rfl) B (by decide+kernel) M3 ⟨[.list []],by decide+kernel,by decide+kernel⟩ (h _ _ (by rfl))
abbrev KX(P:Params):Frag:=KO P
def CP(P:Params):GB (KX P)=true:=by kernel_rfl
def X3(P:Params):Uk (KX P) iA fnAt lY=true:=by kernel_rfl
abbrev F6:List Value:=[.ref 39,.type "ValueError",.type "Exception",.type "BaseException",.type "object"]
def oG(P:Params):Obj:=((KX P).lookup 36).getD ⟨.none,none,.plain,#[]⟩
def T'(P:Params):FuncData:=match(KX P).lookup 36 with |some ⟨_,_,.func fd,_⟩=>fd |_ =>default
def Ej(P:Params):r9 (KX P) 36:=by
 refine⟨oG P,T' P,⟨8,8,8,27⟩,⟨8,8,8,18⟩,⟨8,28,8,32⟩,⟨8,34,8,40⟩,⟨8,8,8,41⟩,⟨8,8,8,41⟩,⟨9,8,9,12⟩,⟨9,8,9,19⟩,⟨9,22,9,28⟩,⟨9,8,9,28⟩,?_,?_,?_,?_,?_,?_,λS a b=>?_,?_,?_,?_,?_,?_,?_,?_,?_,?_⟩
 all_goals first |kernel_rfl |skip
 exact λx h=>of_decide_eq_true (List.all_eq_true.mp (show(T' P).scope.names.all (λx=>decide (x.2≠.cell))=true by kernel_rfl) x h)
section
variable {prog:Program}{w:World}{base:Heap}(fH:(KX w.params).In base)(mg:∃mg,base.Ns mainGlobals mg)(mb:∃mb,base.Ns builtinsNs mb/\∀x:Str,x≠"__name__"->mb x=bootBuiltins x)(d7:base.NoLimit)(eP:∃mc,base.Ns cStatics mc/\mc "sys.int_max_str_digits" =none)
abbrev gK:Gd:=Qq (prog:=prog) (w:=w) (CP w.params) fH mg mb d7 eP
def Q9:pD (gK (prog:=prog) fH mg mb d7 eP) 52:=by
 refine BS (nm:="BadRows") (q:="BadRows") (N:=51) (bs:=[.ref 39]) (bm:=F6) (sn:=[]) (sub:=[]) (ab:=false) (col:=none) (dd:=none) (k0:=some (.ref 43)) (k1:=none) (k2:=some (.str "BadRows" 224)) (k3:=some (.str "BadRows" 232)) (k5:=some (.bool true)) (fI:=36) ?_ ⟨by kernel_rfl,by kernel_rfl,by kernel_rfl,by kernel_rfl⟩ ?_ ?_ ?_ (Ej _) ?_ ?_ (λe=>?_) ?_ ?_ (λv=>?_) (λv=>?_) (λv=>?_)
 all_goals kernel_rfl
def QA:iF (gK (prog:=prog) fH mg mb d7 eP) 239 wd:=tab_of (by kernel_rfl) (by kernel_rfl) (by kernel_rfl) (by kernel_rfl)
def O7:iF (gK (prog:=prog) fH mg mb d7 eP) 304 (xV vu):=tab_of (by kernel_rfl) (by kernel_rfl) (by kernel_rfl) (by kernel_rfl)
abbrev Uj:Cx (gK (prog:=prog) fH mg mb d7 eP) 52 GP:=QJ (λf=>(wK (CP w.params) f).2) (X3 w.params) (λc E h=>by
 have:=sL (CP w.params) h;simp only[Bool.and_eq_true]at this;obtain⟨_,⟨B,_⟩,⟨A,C⟩,D⟩:=this
 exact⟨eq_of_beq A,C,eq_of_beq D,B⟩) (λc=>(wJ (CP w.params) c).2) (by kernel_rfl) (QA fH mg mb d7 eP) (O7 fH mg mb d7 eP) (Q9 fH mg mb d7 eP)
end
section
variable {prog:Program}{w:World}{base:Heap}(fH:(KX w.params).In base)(mg:∃mg,base.Ns mainGlobals mg)(mb:∃mb,base.Ns builtinsNs mb/\∀x:Str,x≠"__name__"->mb x=bootBuiltins x)(d7:base.NoLimit)(eP:∃mc,base.Ns cStatics mc/\mc "sys.int_max_str_digits" =none)
def QR:(List.range 89).all (EK (gK (prog:=prog) fH mg mb d7 eP) 52 GP DK)=true:=by kernel_rfl
def QQ(A:Nat->List SV->aD (SV×List SV))(n:Nat)(co:fP (gK (prog:=prog) fH mg mb d7 eP) 52 A n DK):(List.range 89).all (EJ (Uj (prog:=prog) fH mg mb d7 eP) DK A n co)=true:=by kernel_rfl
def Q8(F:FuncData->Nat->Option (List (Str×Value)))(K:Frag)(f:Nat):List (Option (List (Str×Value))):=match pR K (fnAt f)with |some fd=>(List.range 11).map (F fd)|none=>[]
def LJ(K:Frag)(f:Nat):Bool:=match pR K (fnAt f)with |some fd=>decide ((lh fd).length<=10)|none=>true
def Pp(P:Params):(List.range 89).all (LJ (KX P))=true:=by kernel_rfl
def Yg(S:Setting)(P:Params)(v:Nat->Value):(List.range 89).map (Q8 (λfd=>Q7 (KX P) S fd ((List.range 10).map v)) (KX P))=(List.range 89).map (Q8 (λfd=>Q6 (KX P) fd ((List.range 10).map v)) (KX P)):=by kernel_rfl
def XQ:∀f d,GP.fns f=some d->Jz (gK (prog:=prog) fH mg mb d7 eP) 52 GP DK f d:=by
 have none:∀f,¬f<89->GP.fns f=none:=λf h=>List.getElem?_eq_none (eH.mp h);refine HR (Uj (prog:=prog) fH mg mb d7 eP) (λf=>?_) (λf A n D=>?_) λf fd e=>?_
 ·by_cases h:f<89
  ·exact G8 (QR fH mg mb d7 eP) h
  ·unfold EK;rw[none f h]
 ·by_cases h:f<89
  ·exact G8 (QQ fH mg mb d7 eP A n D) h
  ·unfold EJ;rw[none f h]
 ·obtain⟨B,C,e⟩:∃B,B<89/\pR (KX w.params) (fnAt B)=some fd:=by
   by_cases h:f<89
   ·exact⟨f,h,e⟩
   ·refine⟨88,by decide,?_⟩
    have:fnAt f=fnAt 88:=by unfold fnAt;rw[kM,List.getElem?_eq_none (eH.mp h)];rfl
    exact this▸e
  refine BN fH ?_ λv=>?_
  ·have:=G8 (Pp w.params) C;unfold LJ at this;rw[e]at this;exact of_decide_eq_true this
  ·have:=List.map_inj_left.mp (Yg ⟨prog,w.params⟩ w.params v) B (List.mem_range.mpr C);unfold Q8 at this;rw[e]at this;exact this
end
def DO{l:List Int}(h:PySem.Challenge.rw_xm0359_01.row.pre.holds [] {args:=[.list (l.map .int)]}=true):l.length<=63:=by
 by_cases q:(63:Int)<((l.map WData.int).length:Int)
 ·have e:WTm.holds [] (.and (.not (.lit (.bool (decide ((63:Int)<((l.map WData.int).length:Int)))))) (.lit (.bool true))) {args:=[.list (l.map .int)]}=true:=h;rw[decide_eq_true q]at e;cases e
 ·exact cz (f:=WData.int) (as:=l)▸Int.ofNat_le.mp (Int.not_lt.mp q)
def P2:PySem.Challenge.rw_xm0359_01.Holds:=HF λd Pw v w H F E mb G Y a o pm t M dV kV c f x s Z A I C h j i e Q TC=>by
 have B:(KO w.params).In F.heap:=kIn_of Y;refine bB λP0 L=>?_;obtain⟨R,P⟩:=pre_splitW j;obtain⟨d,r,rfl,k,y⟩:=hasAllW_cons R;obtain rfl:=hasAllW_nil y;obtain⟨p,rfl,S⟩:=hasW_list k
 cases Q with
 |cons U z=>
 cases z
 cases U with
 |list N X=>
 obtain⟨l,rfl,r⟩:=D8 (g:=gK (prog:=PySem.Challenge.pw_xm0359_01) B ⟨_,G.T.g⟩ ⟨_,G.T.b,G.T.builtins⟩ G.T.nolimit G.T.nodigits) (V:=gJ F.heap) _ _ S X
 have u:a=795:=by
  have q:=mg_of B G.T.g (show nsIn (KO w.params) mainGlobals "law" =some (some (.ref 795))by kernel_rfl)
  have W:=(congrArg E (defOf_name v)).symm.trans Z |>.symm.trans (show E oL.row.name=_ from q)
  cases W;rfl
 subst u;refine L (AA (g:=gK (prog:=PySem.Challenge.pw_xm0359_01) B ⟨_,G.T.g⟩ ⟨_,G.T.b,G.T.builtins⟩ G.T.nolimit G.T.nodigits) (uC (XQ B ⟨_,G.T.g⟩ ⟨_,G.T.b,G.T.builtins⟩ G.T.nolimit G.T.nodigits) 14) rfl N r (az (DO P) (by decide)) λn O D=>GoodW.toG ⟨.inl ⟨_,.bool true,[],rfl,λJ=>rfl,.bool true,?_,λJ=>⟨.nil,λJ m=>(nomatch m)⟩⟩,O,D.2,D.1.trans A⟩)
 kernel_rfl
end Mine
end
theorem PySem.Challenge.cw_xm0359_01_holds : PySem.Challenge.rw_xm0359_01.Holds :=
 Mine.P2
