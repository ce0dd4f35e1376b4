import PyProof.Rows.All
import Wide.All
import OpenK.AllK
import Wide.FinOn
import KE.KRevIter
import KE.KBytesCut
import KE.KIsNot
import KE.KIntText
import KE.BytesMake
import PyProof.ExcBaseAll.Exception
import KE.KLam
import KE.KSortKey
import KE.IntTextLaws
import KE.KBytesWalk
import Wide.BytesRules
import KE.IntTextText
import KE.KNestM
import Lean
import PySem.Challenge.RW_nn0227_01
open PySem PySem.W PyProof.Rows
set_option Elab.async false
set_option linter.all false
set_option maxRecDepth 100000
set_option maxHeartbeats 4000000
set_option genSizeOf false
set_option genInjectivity false
namespace Mine
def GZ(k:Lean.SyntaxNodeKind)(a:Array Lean.Syntax):Lean.Syntax:= .node .none `Lean.Parser.Tactic.tacticSeq #[.node .none `Lean.Parser.Tactic.tacticSeq1Indented #[.node .none `null #[.node .none k a]]]
def c8:Lean.Syntax:=GZ `Lean.Parser.Tactic.tacticRfl #[.atom .none "rfl"]
def Dt:Lean.Syntax:=GZ `Lean.Parser.Tactic.withUnfoldingAll #[.atom .none "with_unfolding_all",c8]
def mV:Lean.Syntax:=GZ `Lean.Parser.Tactic.decide #[.atom .none "decide",.node .none `Lean.Parser.Tactic.optConfig #[.node .none `null #[]]]
section
set_option genSizeOf false
set_option genInjectivity false
inductive LN|v(i:Nat)|n(k:Nat)|a(x y:LN)|m(k:Nat)(x:LN)|r(x:LN)(k:Nat)
inductive LZ|v(i:Nat)|n(k:Nat)|a(x y:LZ)|s(x y:LZ)|g(x:LZ)|m(k:LZ)(x:LZ)|c(x:LN)
noncomputable abbrev LN.w:LN:= .v 0
noncomputable abbrev LN.x:LN:= .v 1
noncomputable abbrev LN.y:LN:= .v 2
noncomputable abbrev LN.z:LN:= .v 3
noncomputable abbrev LZ.w:LZ:= .v 0
noncomputable abbrev LZ.x:LZ:= .v 1
noncomputable abbrev LZ.y:LZ:= .v 2
noncomputable abbrev LZ.z:LZ:= .v 3
inductive LF|le(x y:LZ)|lt(x y:LZ)|eq(x y:LZ)|nle(x y:LZ)|nlt(x y:LZ)
 |Le (x y:LN)|Lt (x y:LN)|Eq (x y:LN)|Nle (x y:LN)|Nlt (x y:LN)|ff
noncomputable def DB:List Nat→Nat→Nat
 |x::_,0=>x
 |_::t,i+1=>DB t i
 | [],_=>0
noncomputable def AU:List Int→Nat→Int
 |x::_,0=>x
 |_::t,i+1=>AU t i
 | [],_=>0
noncomputable def LN.d(c:List Nat):LN→Nat
 | .v i=>DB c i
 | .n k=>k
 | .a x y=>x.d c+y.d c
 | .m k x=>k*x.d c
 | .r x k=>x.d c*k
noncomputable def LZ.d(c:List Nat)(e:List Int):LZ→Int
 | .v i=>AU e i
 | .n k=>Int.ofNat k
 | .a x y=>x.d c e+y.d c e
 | .s x y=>x.d c e-y.d c e
 | .g x=> -x.d c e
 | .m k x=>k.d c e*x.d c e
 | .c x=>((x.d c:Nat):Int)
noncomputable def LF.d(c:List Nat)(e:List Int):LF→Prop
 | .le x y=>x.d c e≤y.d c e
 | .lt x y=>x.d c e<y.d c e
 | .eq x y=>x.d c e=y.d c e
 | .nle x y=>¬x.d c e≤y.d c e
 | .nlt x y=>¬x.d c e<y.d c e
 | .Le x y=>x.d c≤y.d c
 | .Lt x y=>x.d c<y.d c
 | .Eq x y=>x.d c=y.d c
 | .Nle x y=>¬x.d c≤y.d c
 | .Nlt x y=>¬x.d c<y.d c
 | .ff=>False
structure LP where
 k:Int
 n:List Int
 z:List Int
noncomputable def fN(l:List Int):List Int→Int:=l.rec (fun _=>0) fun a _ ih c=>a*c.headD 0+ih c.tail
noncomputable def nW(c:List Nat):List Int:=c.rec [] fun a _ ih=>(a:Int)::ih
noncomputable def LP.e(c:List Nat)(e:List Int)(p:LP):Int:=p.k+fN p.n (nW c)+fN p.z e
noncomputable def Br(l:List Int):List Int→List Int:=l.rec (fun m=>m) fun a l ih m=>m.rec (a::l) fun b m _=>(a+b)::ih m
noncomputable def AV(k:Int)(l:List Int):List Int:=l.rec [] fun a _ ih=>(k*a)::ih
noncomputable def r6(i:Nat):List Int:=i.rec [1] fun _ ih=>0::ih
noncomputable def LP.add(p q:LP):LP:=⟨p.k+q.k,Br p.n q.n,Br p.z q.z⟩
noncomputable def LP.mul(k:Int)(p:LP):LP:=⟨k*p.k,AV k p.n,AV k p.z⟩
noncomputable def LN.p(x:LN):LP:=x.rec (fun i=>⟨0,r6 i,[]⟩) (fun k=>⟨Int.ofNat k,[],[]⟩) (fun _ _ x y=>x.add y) (fun k _ x=>x.mul (Int.ofNat k)) (fun _ k x=>x.mul (Int.ofNat k))
noncomputable def LZ.k(x:LZ):Option Int:=x.rec (fun _=>none) (fun k=>some (Int.ofNat k)) (fun _ _ _ _=>none) (fun _ _ _ _=>none) (fun _ x=>x.map fun k=> -k) (fun _ _ _ _=>none) (fun _=>none)
noncomputable def LZ.p(x:LZ):Option LP:=x.rec (fun i=>some ⟨0,[],r6 i⟩) (fun k=>some ⟨Int.ofNat k,[],[]⟩) (fun _ _ x y=>x.bind fun p=>y.map fun q=>p.add q) (fun _ _ x y=>x.bind fun p=>y.map fun q=>p.add (q.mul (-1))) (fun _ x=>x.map fun p=>p.mul (-1))
 (fun k x kp xp=>(k.k.bind fun k=>xp.map fun p=>p.mul k).or (x.k.bind fun k=>kp.map fun p=>p.mul k)) (fun x=>some x.p)
noncomputable def pZ(x y:LP)(t:Int):LP:=(y.add (x.mul (-1))).add ⟨t,[],[]⟩
noncomputable def FT(a b:Option LP)(f:LP→LP→LP)(q:Bool):Option (LP×Bool):=a.bind fun p=>b.map fun r=>(f p r,q)
noncomputable def LF.p(f:LF):Option (LP×Bool):=f.rec (fun x y=>FT x.p y.p (fun p q=>pZ p q 0) false) (fun x y=>FT x.p y.p (fun p q=>pZ p q (-1)) false) (fun x y=>FT x.p y.p (fun p q=>pZ p q 0) true) (fun x y=>FT y.p x.p (fun p q=>pZ p q (-1)) false) (fun x y=>FT y.p x.p (fun p q=>pZ p q 0) false)
 (fun x y=>some (pZ x.p y.p 0,false)) (fun x y=>some (pZ x.p y.p (-1),false)) (fun x y=>some (pZ x.p y.p 0,true)) (fun x y=>some (pZ y.p x.p (-1),false)) (fun x y=>some (pZ y.p x.p 0,false)) (some (⟨-1,[],[]⟩,false))
theorem sI{α β:Type}{o:Option α}{f:α→Option β}{b:β}(h:o.bind f=some b):∃a,o=some a∧f a=some b:=Option.bind_eq_some_iff.mp h
theorem BC{α β:Type}{o:Option α}{f:α→β}{b:β}(h:o.map f=some b):∃a,o=some a∧f a=b:=Option.map_eq_some_iff.mp h
theorem vQ{α:Type}{o:Option α}{f:α→Bool}(h:o.any f=true):∃a,o=some a∧f a=true:=by cases o with
 |none=>cases h
 |some a=>exact⟨a,rfl,h⟩
theorem Fo(a b c d:Int):a+b+(c+d)=a+c+(b+d):=by omega
theorem xJ(a:List Int):∀b c:List Int,fN (Br a b) c=fN a c+fN b c:=by
 induction a with
 |nil=>exact fun b c=>(Int.zero_add _).symm
 |cons a l ih=>
  intro b c
  cases b with
  |nil=>exact(Int.add_zero _).symm
  |cons b m=>show(a+b)*c.headD 0+fN (Br l m) c.tail=(a*c.headD 0+fN l c.tail)+(b*c.headD 0+fN m c.tail);rw[ih,Int.add_mul];exact Fo _ _ _ _
theorem xI(k:Int)(a:List Int):∀c:List Int,fN (AV k a) c=k*fN a c:=by
 induction a with
 |nil=>exact fun c=>(Int.mul_zero _).symm
 |cons a l ih=>intro c;show k*a*c.headD 0+fN (AV k l) c.tail=k*(a*c.headD 0+fN l c.tail);rw[ih,Int.mul_add,Int.mul_assoc]
theorem tZ(i:Nat):∀c:List Int,fN (r6 i) c=AU c i:=by
 induction i with
 |zero=>intro c;cases c with
  |nil=>rfl
  |cons x c=>show 1*x+0=x;rw[Int.one_mul,Int.add_zero]
 |succ i ih=>intro c;cases c with
  |nil=>show 0*0+fN (r6 i) []=0;rw[ih []];cases i<;>rfl
  |cons x c=>show 0*x+fN (r6 i) c=AU c i;rw[ih,Int.zero_mul,Int.zero_add]
theorem AT(i:Nat):∀c:List Nat,AU (nW c) i=(DB c i:Int):=by
 induction i with
 |zero=>intro c;cases c<;>rfl
 |succ i ih=>intro c;cases c with
  |nil=>rfl
  |cons a c=>exact ih c
theorem LP.e_add(c:List Nat)(e:List Int)(p q:LP):(p.add q).e c e=p.e c e+q.e c e:=by
 show(p.k+q.k)+fN (Br p.n q.n) (nW c)+fN (Br p.z q.z) e=(p.k+fN p.n (nW c)+fN p.z e)+(q.k+fN q.n (nW c)+fN q.z e)
 rw[xJ,xJ,Fo p.k];exact Fo ..
theorem LP.e_mul(c:List Nat)(e:List Int)(k:Int)(p:LP):(p.mul k).e c e=k*p.e c e:=by
 show k*p.k+fN (AV k p.n) (nW c)+fN (AV k p.z) e=k*(p.k+fN p.n (nW c)+fN p.z e)
 rw[xI,xI,Int.mul_add,Int.mul_add]
theorem LN.p_e(c:List Nat)(e:List Int)(x:LN):x.p.e c e=(x.d c:Int):=by
 induction x with
 |v i=>show 0+fN (r6 i) (nW c)+0=(DB c i:Int);rw[tZ,AT,Int.zero_add,Int.add_zero]
 |n k=>show Int.ofNat k+0+0=_;rw[Int.add_zero,Int.add_zero];rfl
 |a x y ihx ihy=>exact(LP.e_add c e x.p y.p).trans (by rw[ihx,ihy];rfl)
 |m k x ih=>exact(LP.e_mul c e (Int.ofNat k) x.p).trans (by rw[ih];rfl)
 |r x k ih=>exact(LP.e_mul c e (Int.ofNat k) x.p).trans (by rw[ih,Int.mul_comm];rfl)
theorem LZ.k_e(c:List Nat)(e:List Int)(x:LZ):∀{k:Int},x.k=some k→x.d c e=k:=by
 induction x with
 |n k=>intro _ h;cases h;rfl
 |g x ih=>intro _ h;obtain⟨k,h1,rfl⟩:=BC h;exact congrArg Neg.neg (ih h1)
 |_=>intro _ h;cases h
theorem LZ.p_e(c:List Nat)(e:List Int)(x:LZ):∀{p:LP},x.p=some p→p.e c e=x.d c e:=by
 induction x with
 |v i=>intro p h;cases h;show 0+0+fN (r6 i) e=AU e i;rw[tZ];exact Int.zero_add _
 |n k=>intro p h;cases h;exact(Int.add_zero _).trans (Int.add_zero _)
 |a x y ihx ihy=>intro p h;obtain⟨p1,h1,h⟩:=sI h;obtain⟨p2,h2,rfl⟩:=BC h;exact(LP.e_add c e _ _).trans (by rw[ihx h1,ihy h2];rfl)
 |s x y ihx ihy=>intro p h;obtain⟨p1,h1,h⟩:=sI h;obtain⟨p2,h2,rfl⟩:=BC h;exact(LP.e_add c e _ _).trans (by rw[LP.e_mul,ihx h1,ihy h2,Int.neg_mul,Int.one_mul];rfl)
 |g x ih=>intro p h;obtain⟨p1,h1,rfl⟩:=BC h;exact(LP.e_mul c e _ _).trans (by rw[ih h1,Int.neg_mul,Int.one_mul];rfl)
 |m k x ihk ihx=>
  intro p h
  rcases Option.or_eq_some_iff.mp h with h|⟨_,h⟩
  ·obtain⟨k1,h1,h⟩:=sI h;obtain⟨p2,h2,rfl⟩:=BC h;exact(LP.e_mul c e _ _).trans (by rw[ihx h2,←LZ.k_e c e k h1];rfl)
  ·obtain⟨k1,h1,h⟩:=sI h;obtain⟨p2,h2,rfl⟩:=BC h;exact(LP.e_mul c e _ _).trans (by rw[ihk h2,←LZ.k_e c e x h1,Int.mul_comm];rfl)
 |c x=>intro p h;cases h;exact LN.p_e c e x
theorem jG{c:List Nat}{e:List Int}{p q:LP}{t a b:Int}(hp:p.e c e=a)(hq:q.e c e=b):(pZ p q t).e c e=b-a+t:=by
 unfold pZ
 rw[LP.e_add,LP.e_add,LP.e_mul,hp,hq,Int.neg_mul,Int.one_mul]
 show _+(t+0+0)=_
 rw[Int.add_zero,Int.add_zero];rfl
theorem G5{a b x:Int}(h:x=b-a+0):a≤b↔0≤x:=by omega
theorem G4{a b x:Int}(h:x=b-a+ -1):a<b↔0≤x:=by omega
theorem G6{a b x:Int}(h:x=b-a+0):a=b↔x=0:=by omega
theorem Ec{a b x:Int}(h:x=a-b+ -1):¬a≤b↔0≤x:=by omega
theorem Eb{a b x:Int}(h:x=a-b+0):¬a<b↔0≤x:=by omega
theorem LF.says(c:List Nat)(e:List Int)(f:LF){p:LP}{b:Bool}(h:f.p=some (p,b)):f.d c e↔(if b then p.e c e=0 else 0≤p.e c e):=by
 have pe:=LN.p_e c e
 cases f with
 |ff=>cases h;exact⟨False.elim,fun h=>absurd h (by show¬(0:Int)≤ -1+0+0;decide)⟩
 |Le x y=>cases h;exact Int.ofNat_le.symm.trans (G5 (jG (pe x) (pe y)))
 |Lt x y=>cases h;exact Int.ofNat_lt.symm.trans (G4 (jG (pe x) (pe y)))
 |Eq x y=>cases h;exact Int.ofNat_inj.symm.trans (G6 (jG (pe x) (pe y)))
 |Nle x y=>cases h;exact(not_congr Int.ofNat_le.symm).trans (Ec (jG (pe y) (pe x)))
 |Nlt x y=>cases h;exact(not_congr Int.ofNat_lt.symm).trans (Eb (jG (pe y) (pe x)))
 |le x y=>obtain⟨p1,h1,h⟩:=sI h;obtain⟨p2,h2,h⟩:=BC h;cases h;exact G5 (jG (LZ.p_e c e x h1) (LZ.p_e c e y h2))
 |lt x y=>obtain⟨p1,h1,h⟩:=sI h;obtain⟨p2,h2,h⟩:=BC h;cases h;exact G4 (jG (LZ.p_e c e x h1) (LZ.p_e c e y h2))
 |eq x y=>obtain⟨p1,h1,h⟩:=sI h;obtain⟨p2,h2,h⟩:=BC h;cases h;exact G6 (jG (LZ.p_e c e x h1) (LZ.p_e c e y h2))
 |nle x y=>obtain⟨p1,h1,h⟩:=sI h;obtain⟨p2,h2,h⟩:=BC h;cases h;exact Ec (jG (LZ.p_e c e y h1) (LZ.p_e c e x h2))
 |nlt x y=>obtain⟨p1,h1,h⟩:=sI h;obtain⟨p2,h2,h⟩:=BC h;cases h;exact Eb (jG (LZ.p_e c e y h1) (LZ.p_e c e x h2))
noncomputable def C6(i:Int):Bool:=i.rec (fun _=>true) fun _=>false
noncomputable def HA(i:Int):Bool:=i.rec (fun n=>n.rec true fun _ _=>false) fun _=>false
theorem uP{i:Int}(h:C6 i=true):0≤i:=by cases i with
 |ofNat n=>exact Int.natCast_nonneg n
 |negSucc n=>cases h
theorem G3{i:Int}(h:HA i=true):i=0:=by cases i with
 |ofNat n=>cases n with
  |zero=>rfl
  |succ n=>cases h
 |negSucc n=>cases h
noncomputable def E8(l:List Int):Bool:=l.rec true fun a _ ih=>C6 a&&ih
noncomputable def E6(l:List Int):Bool:=l.rec true fun a _ ih=>HA a&&ih
theorem AZ(l:List Int):∀c:List Nat,E8 l=true→0≤fN l (nW c):=by
 induction l with
 |nil=>exact fun _ _=>Int.le_refl _
 |cons a l ih=>
  intro c h
  obtain⟨h1,h2⟩:=Bool.and_eq_true_iff.mp h
  cases c with
  |nil=>exact Int.add_nonneg (Int.mul_nonneg (uP h1) (Int.le_refl _)) (ih [] h2)
  |cons x c=>exact Int.add_nonneg (Int.mul_nonneg (uP h1) (Int.natCast_nonneg x)) (ih c h2)
theorem AY(l:List Int):∀c:List Int,E6 l=true→fN l c=0:=by
 induction l with
 |nil=>exact fun _ _=>rfl
 |cons a l ih=>
  intro c h
  obtain⟨h1,h2⟩:=Bool.and_eq_true_iff.mp h
  show a*c.headD 0+fN l c.tail=0
  rw[G3 h1,ih c.tail h2,Int.zero_mul];rfl
noncomputable def BT(l:List (LF×Int)):LP→Option LP:=l.rec (fun r=>some r) fun a _ ih r=>a.1.p.bind fun q=>if(q.2||C6 a.2)=true then ih (r.add (q.1.mul (-a.2))) else none
noncomputable def EX(k:Nat)(r:LP):Bool:=E8 r.n&&E6 r.z&&C6 (r.k+Int.ofNat k+ -1)
noncomputable def oL(fs:List (LF×Int))(g:LP)(k:Nat):Bool:=(BT fs (g.mul (Int.ofNat (k+1)))).any (EX (k+1))
theorem Dx(c:List Nat)(e:List Int)(fs:List (LF×Int)):∀{r r' :LP},(∀p∈fs,p.1.d c e)→BT fs r=some r'→r'.e c e≤r.e c e:=by
 induction fs with
 |nil=>intro r r' _ h;cases h;exact Int.le_refl _
 |cons a l ih=>
  intro r r' hf h
  obtain⟨⟨p,b⟩,hp,h⟩:=sI h
  have key:=(LF.says c e a.1 hp).mp (hf a (List.mem_cons_self ..))
  by_cases hb:(b||C6 a.2)=true
  ·have h:BT l (r.add (p.mul (-a.2)))=some r' :=(if_pos hb).symm.trans h
   have h:=ih (fun q hq=>hf q (List.mem_cons_of_mem _ hq)) h
   rw[LP.e_add,LP.e_mul,Int.neg_mul] at h
   have hw:0≤a.2*p.e c e:=by
    cases b with
    |true=>rw[show p.e c e=0 from key,Int.mul_zero];exact Int.le_refl _
    |false=>exact Int.mul_nonneg (uP hb) key
   exact Int.le_trans h (Int.sub_le_self _ hw)
  ·cases(if_neg hb).symm.trans h
theorem F6(c:List Nat)(e:List Int){fs:List (LF×Int)}{g:LP}{k:Nat}(ok:oL fs g k=true)(hf:∀p∈fs,p.1.d c e):0≤g.e c e:=by
 obtain⟨r,hr,ok⟩:=vQ ok
 have h:=Dx c e fs hf hr
 rw[LP.e_mul] at h
 obtain⟨h2,h3⟩:=Bool.and_eq_true_iff.mp ok
 obtain⟨h1,h2⟩:=Bool.and_eq_true_iff.mp h2
 have h3:=uP h3
 have h4:=AZ r.n c h1
 have h5:=AY r.z e h2
 have h6: -(Int.ofNat (k+1))<Int.ofNat (k+1)*g.e c e:=by
  unfold LP.e at h ⊢
  omega
 generalize g.e c e=x at h6
 rcases Int.lt_or_le x 0 with hx|hx
 ·have h7:Int.ofNat (k+1)*x≤Int.ofNat (k+1)*(-1):=Int.mul_le_mul_of_nonneg_left (Int.le_sub_one_of_lt hx) (Int.natCast_nonneg _)
  rw[Int.mul_neg,Int.mul_one] at h7
  exact absurd h6 (Int.not_lt.mpr h7)
 ·exact hx
noncomputable def rM(fs:List (LF×Int))(g:LF)(k:Nat):Bool:=g.p.any fun q=> !q.2&&oL fs q.1 k
theorem FG(c:List Nat)(e:List Int){fs:List (LF×Int)}{g:LF}{k:Nat}(ok:rM fs g k=true)(hf:∀p∈fs,p.1.d c e):g.d c e:=by
 obtain⟨⟨p,b⟩,hp,ok⟩:=vQ ok
 cases b with
 |true=>cases ok
 |false=>exact(LF.says c e g hp).mpr (F6 c e ok hf)
noncomputable def Ca(fs gs:List (LF×Int))(g:LF):Bool:=g.p.any fun q=>q.2&&(oL fs q.1 0&&oL gs (q.1.mul (-1)) 0)
theorem H6(c:List Nat)(e:List Int){fs gs:List (LF×Int)}{g:LF}(ok:Ca fs gs g=true)(hf:∀p∈fs,p.1.d c e)(hg:∀p∈gs,p.1.d c e):g.d c e:=by
 obtain⟨⟨p,b⟩,hp,ok⟩:=vQ ok
 cases b with
 |false=>cases ok
 |true=>
  obtain⟨h1,h2⟩:=Bool.and_eq_true_iff.mp (show(oL fs p 0&&oL gs (p.mul (-1)) 0)=true from ok)
  have a:=F6 c e h1 hf
  have b:=F6 c e h2 hg
  rw[LP.e_mul,Int.neg_mul,Int.one_mul] at b
  exact(LF.says c e g hp).mpr (Int.le_antisymm (Int.nonpos_of_neg_nonneg b) a)
noncomputable def FV(l:List (LF×Int)):List (LF×Int):=l.map fun p=>(p.1, -p.2)
theorem C7(l:List (LF×Int)){c:List Nat}{e:List Int}(h:∀p∈l,p.1.d c e):∀p∈FV l,p.1.d c e:=fun p hp=>by
 obtain⟨q,h1,rfl⟩:=List.mem_map.mp hp
 exact h q h1
noncomputable def oK(fs:List (LF×Int))(g:LF):Bool:=Ca fs (FV fs) g
theorem C9(c:List Nat)(e:List Int){fs:List (LF×Int)}{g:LF}(ok:oK fs g=true)(hf:∀p∈fs,p.1.d c e):g.d c e:=H6 c e ok hf (C7 fs hf)
noncomputable def pK(c:List Nat)(e:List Int)(l:List (LF×Int)):Prop:=l.rec True fun a _ ih=>a.1.d c e∧ih
theorem pK.mem{c:List Nat}{e:List Int}{l:List (LF×Int)}(h:pK c e l):∀p∈l,p.1.d c e:=by
 induction l with
 |nil=>exact fun _ h=>nomatch h
 |cons a l ih=>intro p hp;exact(List.mem_cons.mp hp).elim (fun q=>q▸h.1) fun q=>ih h.2 p q
theorem qq:true=true:=rfl
theorem aZ(c:List Nat)(e:List Int)(g:LF)(k:Nat)(ok:rM [] g k=true):g.d c e:=FG c e ok (pK.mem (l:=[]) trivial)
theorem d9(c:List Nat)(e:List Int)(g:LF)(ok:oK [] g=true):g.d c e:=C9 c e ok (pK.mem (l:=[]) trivial)
theorem aB(c:List Nat)(e:List Int)(f1:LF)(w1:Int)(g:LF)(k:Nat)(ok:rM [(f1,w1)] g k=true)(h1:f1.d c e):g.d c e:=FG c e ok (pK.mem (l:=[(f1,w1)]) ⟨h1,trivial⟩)
theorem cA(c:List Nat)(e:List Int)(f1:LF)(w1:Int)(g:LF)(ok:oK [(f1,w1)] g=true)(h1:f1.d c e):g.d c e:=C9 c e ok (pK.mem (l:=[(f1,w1)]) ⟨h1,trivial⟩)
theorem aI(c:List Nat)(e:List Int)(f1:LF)(w1:Int)(f2:LF)(w2:Int)(g:LF)(k:Nat)(ok:rM [(f1,w1),(f2,w2)] g k=true)(h1:f1.d c e)(h2:f2.d c e):g.d c e:=FG c e ok (pK.mem (l:=[(f1,w1),(f2,w2)]) ⟨h1,h2,trivial⟩)
theorem wZ(c:List Nat)(e:List Int)(f1:LF)(w1:Int)(f2:LF)(w2:Int)(g:LF)(ok:oK [(f1,w1),(f2,w2)] g=true)(h1:f1.d c e)(h2:f2.d c e):g.d c e:=C9 c e ok (pK.mem (l:=[(f1,w1),(f2,w2)]) ⟨h1,h2,trivial⟩)
theorem eQ(c:List Nat)(e:List Int)(f1:LF)(w1:Int)(f2:LF)(w2:Int)(f3:LF)(w3:Int)(g:LF)(k:Nat)(ok:rM [(f1,w1),(f2,w2),(f3,w3)] g k=true)(h1:f1.d c e)(h2:f2.d c e)(h3:f3.d c e):g.d c e:=FG c e ok (pK.mem (l:=[(f1,w1),(f2,w2),(f3,w3)]) ⟨h1,h2,h3,trivial⟩)
theorem Ah(c:List Nat)(e:List Int)(f1:LF)(w1:Int)(f2:LF)(w2:Int)(f3:LF)(w3:Int)(g:LF)(ok:oK [(f1,w1),(f2,w2),(f3,w3)] g=true)(h1:f1.d c e)(h2:f2.d c e)(h3:f3.d c e):g.d c e:=C9 c e ok (pK.mem (l:=[(f1,w1),(f2,w2),(f3,w3)]) ⟨h1,h2,h3,trivial⟩)
theorem uT(c:List Nat)(e:List Int)(f1:LF)(w1:Int)(f2:LF)(w2:Int)(f3:LF)(w3:Int)(f4:LF)(w4:Int)(g:LF)(k:Nat)(ok:rM [(f1,w1),(f2,w2),(f3,w3),(f4,w4)] g k=true)(h1:f1.d c e)(h2:f2.d c e)(h3:f3.d c e)(h4:f4.d c e):g.d c e:=FG c e ok (pK.mem (l:=[(f1,w1),(f2,w2),(f3,w3),(f4,w4)]) ⟨h1,h2,h3,h4,trivial⟩)
theorem FW(c:List Nat)(e:List Int)(f1:LF)(w1:Int)(f2:LF)(w2:Int)(f3:LF)(w3:Int)(f4:LF)(w4:Int)(g:LF)(ok:oK [(f1,w1),(f2,w2),(f3,w3),(f4,w4)] g=true)(h1:f1.d c e)(h2:f2.d c e)(h3:f3.d c e)(h4:f4.d c e):g.d c e:=C9 c e ok (pK.mem (l:=[(f1,w1),(f2,w2),(f3,w3),(f4,w4)]) ⟨h1,h2,h3,h4,trivial⟩)
theorem F7(c:List Nat)(e:List Int)(f1:LF)(w1:Int)(f2:LF)(w2:Int)(f3:LF)(w3:Int)(f4:LF)(w4:Int)(f5:LF)(w5:Int)(g:LF)(k:Nat)(ok:rM [(f1,w1),(f2,w2),(f3,w3),(f4,w4),(f5,w5)] g k=true)(h1:f1.d c e)(h2:f2.d c e)(h3:f3.d c e)(h4:f4.d c e)(h5:f5.d c e):g.d c e:=FG c e ok (pK.mem (l:=[(f1,w1),(f2,w2),(f3,w3),(f4,w4),(f5,w5)]) ⟨h1,h2,h3,h4,h5,trivial⟩)
end
section
set_option genSizeOf false
set_option genInjectivity false
inductive pJ{α0 α1:Type}(p0:α0→α1→Prop):Prop
 |mk (a0:α0) (a1:α1) (h0:p0 a0 a1):pJ p0
inductive fT{α0 α1:Type}(p0 p1:α0→α1→Prop):Prop
 |mk (a0:α0) (a1:α1) (h0:p0 a0 a1) (h1:p1 a0 a1):fT p0 p1
inductive cJ{α0 α1:Type}(p0 p1 p2:α0→α1→Prop):Prop
 |mk (a0:α0) (a1:α1) (h0:p0 a0 a1) (h1:p1 a0 a1) (h2:p2 a0 a1):cJ p0 p1 p2
inductive cW{α0 α1:Type}(p0 p1 p2 p3:α0→α1→Prop):Prop
 |mk (a0:α0) (a1:α1) (h0:p0 a0 a1) (h1:p1 a0 a1) (h2:p2 a0 a1) (h3:p3 a0 a1):cW p0 p1 p2 p3
inductive E2x5{α0 α1:Type}(p0 p1 p2 p3 p4:α0→α1→Prop):Prop
 |mk (a0:α0) (a1:α1) (h0:p0 a0 a1) (h1:p1 a0 a1) (h2:p2 a0 a1) (h3:p3 a0 a1) (h4:p4 a0 a1):E2x5 p0 p1 p2 p3 p4
inductive E2x6{α0 α1:Type}(p0 p1 p2 p3 p4 p5:α0→α1→Prop):Prop
 |mk (a0:α0) (a1:α1) (h0:p0 a0 a1) (h1:p1 a0 a1) (h2:p2 a0 a1) (h3:p3 a0 a1) (h4:p4 a0 a1) (h5:p5 a0 a1):E2x6 p0 p1 p2 p3 p4 p5
inductive sF{α0 α1 α2:Type}(p0 p1:α0→α1→α2→Prop):Prop
 |mk (a0:α0) (a1:α1) (a2:α2) (h0:p0 a0 a1 a2) (h1:p1 a0 a1 a2):sF p0 p1
inductive jP{α0 α1 α2:Type}(p0 p1 p2:α0→α1→α2→Prop):Prop
 |mk (a0:α0) (a1:α1) (a2:α2) (h0:p0 a0 a1 a2) (h1:p1 a0 a1 a2) (h2:p2 a0 a1 a2):jP p0 p1 p2
inductive gY{α0 α1 α2:Type}(p0 p1 p2 p3:α0→α1→α2→Prop):Prop
 |mk (a0:α0) (a1:α1) (a2:α2) (h0:p0 a0 a1 a2) (h1:p1 a0 a1 a2) (h2:p2 a0 a1 a2) (h3:p3 a0 a1 a2):gY p0 p1 p2 p3
inductive y9{α0 α1 α2:Type}(p0 p1 p2 p3 p4:α0→α1→α2→Prop):Prop
 |mk (a0:α0) (a1:α1) (a2:α2) (h0:p0 a0 a1 a2) (h1:p1 a0 a1 a2) (h2:p2 a0 a1 a2) (h3:p3 a0 a1 a2) (h4:p4 a0 a1 a2):y9 p0 p1 p2 p3 p4
inductive y8{α0 α1 α2:Type}(p0 p1 p2 p3 p4 p5:α0→α1→α2→Prop):Prop
 |mk (a0:α0) (a1:α1) (a2:α2) (h0:p0 a0 a1 a2) (h1:p1 a0 a1 a2) (h2:p2 a0 a1 a2) (h3:p3 a0 a1 a2) (h4:p4 a0 a1 a2) (h5:p5 a0 a1 a2):y8 p0 p1 p2 p3 p4 p5
inductive E3x7{α0 α1 α2:Type}(p0 p1 p2 p3 p4 p5 p6:α0→α1→α2→Prop):Prop
 |mk (a0:α0) (a1:α1) (a2:α2) (h0:p0 a0 a1 a2) (h1:p1 a0 a1 a2) (h2:p2 a0 a1 a2) (h3:p3 a0 a1 a2) (h4:p4 a0 a1 a2) (h5:p5 a0 a1 a2) (h6:p6 a0 a1 a2):E3x7 p0 p1 p2 p3 p4 p5 p6
inductive t5{α0 α1 α2 α3:Type}(p0 p1:α0→α1→α2→α3→Prop):Prop
 |mk (a0:α0) (a1:α1) (a2:α2) (a3:α3) (h0:p0 a0 a1 a2 a3) (h1:p1 a0 a1 a2 a3):t5 p0 p1
inductive E4x3{α0 α1 α2 α3:Type}(p0 p1 p2:α0→α1→α2→α3→Prop):Prop
 |mk (a0:α0) (a1:α1) (a2:α2) (a3:α3) (h0:p0 a0 a1 a2 a3) (h1:p1 a0 a1 a2 a3) (h2:p2 a0 a1 a2 a3):E4x3 p0 p1 p2
inductive jO{α0 α1 α2 α3:Type}(p0 p1 p2 p3:α0→α1→α2→α3→Prop):Prop
 |mk (a0:α0) (a1:α1) (a2:α2) (a3:α3) (h0:p0 a0 a1 a2 a3) (h1:p1 a0 a1 a2 a3) (h2:p2 a0 a1 a2 a3) (h3:p3 a0 a1 a2 a3):jO p0 p1 p2 p3
inductive y7{α0 α1 α2 α3:Type}(p0 p1 p2 p3 p4:α0→α1→α2→α3→Prop):Prop
 |mk (a0:α0) (a1:α1) (a2:α2) (a3:α3) (h0:p0 a0 a1 a2 a3) (h1:p1 a0 a1 a2 a3) (h2:p2 a0 a1 a2 a3) (h3:p3 a0 a1 a2 a3) (h4:p4 a0 a1 a2 a3):y7 p0 p1 p2 p3 p4
inductive BA{α0 α1 α2 α3:Type}(p0 p1 p2 p3 p4 p5:α0→α1→α2→α3→Prop):Prop
 |mk (a0:α0) (a1:α1) (a2:α2) (a3:α3) (h0:p0 a0 a1 a2 a3) (h1:p1 a0 a1 a2 a3) (h2:p2 a0 a1 a2 a3) (h3:p3 a0 a1 a2 a3) (h4:p4 a0 a1 a2 a3) (h5:p5 a0 a1 a2 a3):BA p0 p1 p2 p3 p4 p5
inductive GQ{α0 α1 α2 α3:Type}(p0 p1 p2 p3 p4 p5 p6:α0→α1→α2→α3→Prop):Prop
 |mk (a0:α0) (a1:α1) (a2:α2) (a3:α3) (h0:p0 a0 a1 a2 a3) (h1:p1 a0 a1 a2 a3) (h2:p2 a0 a1 a2 a3) (h3:p3 a0 a1 a2 a3) (h4:p4 a0 a1 a2 a3) (h5:p5 a0 a1 a2 a3) (h6:p6 a0 a1 a2 a3):GQ p0 p1 p2 p3 p4 p5 p6
inductive Bz{α0 α1 α2 α3 α4:Type}(p0 p1 p2:α0→α1→α2→α3→α4→Prop):Prop
 |mk (a0:α0) (a1:α1) (a2:α2) (a3:α3) (a4:α4) (h0:p0 a0 a1 a2 a3 a4) (h1:p1 a0 a1 a2 a3 a4) (h2:p2 a0 a1 a2 a3 a4):Bz p0 p1 p2
inductive By{α0 α1 α2 α3 α4:Type}(p0 p1 p2 p3:α0→α1→α2→α3→α4→Prop):Prop
 |mk (a0:α0) (a1:α1) (a2:α2) (a3:α3) (a4:α4) (h0:p0 a0 a1 a2 a3 a4) (h1:p1 a0 a1 a2 a3 a4) (h2:p2 a0 a1 a2 a3 a4) (h3:p3 a0 a1 a2 a3 a4):By p0 p1 p2 p3
inductive Bx{α0 α1 α2 α3 α4:Type}(p0 p1 p2 p3 p4:α0→α1→α2→α3→α4→Prop):Prop
 |mk (a0:α0) (a1:α1) (a2:α2) (a3:α3) (a4:α4) (h0:p0 a0 a1 a2 a3 a4) (h1:p1 a0 a1 a2 a3 a4) (h2:p2 a0 a1 a2 a3 a4) (h3:p3 a0 a1 a2 a3 a4) (h4:p4 a0 a1 a2 a3 a4):Bx p0 p1 p2 p3 p4
inductive A3{α0 α1 α2 α3 α4:Type}(p0 p1 p2 p3 p4 p5:α0→α1→α2→α3→α4→Prop):Prop
 |mk (a0:α0) (a1:α1) (a2:α2) (a3:α3) (a4:α4) (h0:p0 a0 a1 a2 a3 a4) (h1:p1 a0 a1 a2 a3 a4) (h2:p2 a0 a1 a2 a3 a4) (h3:p3 a0 a1 a2 a3 a4) (h4:p4 a0 a1 a2 a3 a4) (h5:p5 a0 a1 a2 a3 a4):A3 p0 p1 p2 p3 p4 p5
inductive lJ{α0 α1 α2 α3 α4:Type}(p0 p1 p2 p3 p4 p5 p6 p7 p8:α0→α1→α2→α3→α4→Prop):Prop
 |mk (a0:α0) (a1:α1) (a2:α2) (a3:α3) (a4:α4) (h0:p0 a0 a1 a2 a3 a4) (h1:p1 a0 a1 a2 a3 a4) (h2:p2 a0 a1 a2 a3 a4) (h3:p3 a0 a1 a2 a3 a4) (h4:p4 a0 a1 a2 a3 a4) (h5:p5 a0 a1 a2 a3 a4) (h6:p6 a0 a1 a2 a3 a4) (h7:p7 a0 a1 a2 a3 a4) (h8:p8 a0 a1 a2 a3 a4):lJ p0 p1 p2 p3 p4 p5 p6 p7 p8
inductive pY{α0 α1 α2 α3 α4:Type}(p0 p1 p2 p3 p4 p5 p6 p7 p8 p9 p10:α0→α1→α2→α3→α4→Prop):Prop
 |mk (a0:α0) (a1:α1) (a2:α2) (a3:α3) (a4:α4) (h0:p0 a0 a1 a2 a3 a4) (h1:p1 a0 a1 a2 a3 a4) (h2:p2 a0 a1 a2 a3 a4) (h3:p3 a0 a1 a2 a3 a4) (h4:p4 a0 a1 a2 a3 a4) (h5:p5 a0 a1 a2 a3 a4) (h6:p6 a0 a1 a2 a3 a4) (h7:p7 a0 a1 a2 a3 a4) (h8:p8 a0 a1 a2 a3 a4) (h9:p9 a0 a1 a2 a3 a4) (h10:p10 a0 a1 a2 a3 a4):pY p0 p1 p2 p3 p4 p5 p6 p7 p8 p9 p10
inductive A2{α0 α1 α2 α3 α4 α5:Type}(p0 p1 p2:α0→α1→α2→α3→α4→α5→Prop):Prop
 |mk (a0:α0) (a1:α1) (a2:α2) (a3:α3) (a4:α4) (a5:α5) (h0:p0 a0 a1 a2 a3 a4 a5) (h1:p1 a0 a1 a2 a3 a4 a5) (h2:p2 a0 a1 a2 a3 a4 a5):A2 p0 p1 p2
inductive A1{α0 α1 α2 α3 α4 α5:Type}(p0 p1 p2 p3:α0→α1→α2→α3→α4→α5→Prop):Prop
 |mk (a0:α0) (a1:α1) (a2:α2) (a3:α3) (a4:α4) (a5:α5) (h0:p0 a0 a1 a2 a3 a4 a5) (h1:p1 a0 a1 a2 a3 a4 a5) (h2:p2 a0 a1 a2 a3 a4 a5) (h3:p3 a0 a1 a2 a3 a4 a5):A1 p0 p1 p2 p3
inductive t0{α0 α1 α2 α3 α4 α5:Type}(p0 p1 p2 p3 p4:α0→α1→α2→α3→α4→α5→Prop):Prop
 |mk (a0:α0) (a1:α1) (a2:α2) (a3:α3) (a4:α4) (a5:α5) (h0:p0 a0 a1 a2 a3 a4 a5) (h1:p1 a0 a1 a2 a3 a4 a5) (h2:p2 a0 a1 a2 a3 a4 a5) (h3:p3 a0 a1 a2 a3 a4 a5) (h4:p4 a0 a1 a2 a3 a4 a5):t0 p0 p1 p2 p3 p4
inductive sZ{α0 α1 α2 α3 α4 α5:Type}(p0 p1 p2 p3 p4 p5:α0→α1→α2→α3→α4→α5→Prop):Prop
 |mk (a0:α0) (a1:α1) (a2:α2) (a3:α3) (a4:α4) (a5:α5) (h0:p0 a0 a1 a2 a3 a4 a5) (h1:p1 a0 a1 a2 a3 a4 a5) (h2:p2 a0 a1 a2 a3 a4 a5) (h3:p3 a0 a1 a2 a3 a4 a5) (h4:p4 a0 a1 a2 a3 a4 a5) (h5:p5 a0 a1 a2 a3 a4 a5):sZ p0 p1 p2 p3 p4 p5
inductive A0{α0 α1 α2 α3 α4 α5:Type}(p0 p1 p2 p3 p4 p5 p6:α0→α1→α2→α3→α4→α5→Prop):Prop
 |mk (a0:α0) (a1:α1) (a2:α2) (a3:α3) (a4:α4) (a5:α5) (h0:p0 a0 a1 a2 a3 a4 a5) (h1:p1 a0 a1 a2 a3 a4 a5) (h2:p2 a0 a1 a2 a3 a4 a5) (h3:p3 a0 a1 a2 a3 a4 a5) (h4:p4 a0 a1 a2 a3 a4 a5) (h5:p5 a0 a1 a2 a3 a4 a5) (h6:p6 a0 a1 a2 a3 a4 a5):A0 p0 p1 p2 p3 p4 p5 p6
inductive zZ{α0 α1 α2 α3 α4 α5 α6 α7:Type}(p0 p1 p2 p3 p4 p5 p6:α0→α1→α2→α3→α4→α5→α6→α7→Prop):Prop
 |mk (a0:α0) (a1:α1) (a2:α2) (a3:α3) (a4:α4) (a5:α5) (a6:α6) (a7:α7) (h0:p0 a0 a1 a2 a3 a4 a5 a6 a7) (h1:p1 a0 a1 a2 a3 a4 a5 a6 a7) (h2:p2 a0 a1 a2 a3 a4 a5 a6 a7) (h3:p3 a0 a1 a2 a3 a4 a5 a6 a7) (h4:p4 a0 a1 a2 a3 a4 a5 a6 a7) (h5:p5 a0 a1 a2 a3 a4 a5 a6 a7) (h6:p6 a0 a1 a2 a3 a4 a5 a6 a7):zZ p0 p1 p2 p3 p4 p5 p6
inductive V where
 |none
 |bool (b:Bool)
 |int (i:Int)
 |str (s:Str)
 |bytes (b:Array UInt8)
 |tup (l:List V)
 |lst (l:List V)
 |dct (l:List (Str×V))
 |obj (C:Addr) (l:List (Str×V))
 |ins (C d:Addr)
 |lam (params:Arguments) (body:Expr) (scope:Scope) (caps:List (Str×V))
 |rng (a b c:Int)
 |val (v:Value)
structure Gx where
 prog:Program
 w:World
 K:Frag
 T:Heap
 mg:Str→Option Value
 mb:Str→Option Value
 hK:K.In T
 hg:T.Ns mainGlobals mg
 hb:T.Ns builtinsNs mb
 hl:T.NoLimit
 hbi:∀x:Str,x≠ "__name__"→mb x=bootBuiltins x
noncomputable abbrev Fz:=Addr→Option Obj
noncomputable def Fz.put(B:Fz)(a:Addr)(o:Obj):Fz:=fun b=>if b=a then some o else B b
noncomputable def mQ{K:Type}[DecidableEq K]{prog:Program}{w:World}(knd:KeyKind prog w K)(o:Obj)(kvs:List (K×Value)):Prop:=
 E2x5 (fun es ep=>o.ExactDict) (fun es ep=>o.data= .dict es ep) (fun es ep=>KeysOf knd es) (fun es ep=>Pairs knd es.toList kvs) (fun es ep=>(kvs.map (·.1)).Nodup)
theorem mQ.of{K:Type}[DecidableEq K]{prog:Program}{w:World}{knd:KeyKind prog w K}{h:Heap}{a:Addr}{kvs:List (K×Value)}(x:h.DictOf knd a kvs):∃o,h.get? a=some o∧mQ knd o kvs:=
 by obtain⟨o,es,ep,e,r1,r2,r3,r4,r5⟩:=x;exact⟨o,e,es,ep,r1,r2,r3,r4,r5⟩
theorem mQ.at{K:Type}[DecidableEq K]{prog:Program}{w:World}{knd:KeyKind prog w K}{h:Heap}{a:Addr}{o:Obj}{kvs:List (K×Value)}(e:h.get? a=some o)(x:mQ knd o kvs):h.DictOf knd a kvs:=
 by obtain⟨es,ep,r1,r2,r3,r4,r5⟩:=x;exact⟨o,es,ep,e,r1,r2,r3,r4,r5⟩
structure y6(B:Fz)(params:Arguments)(body:Expr)(scope:Scope)(fd:FuncData):Prop where
 params:fd.params=params
 body:fd.body= .expr body
 scope:fd.scope=scope
 glob:fd.globals=mainGlobals
 bui:fd.builtins=builtinsNs
 dflt:fd.defaults= .none
 kdflt:fd.kwdefaults= .none
 code:jO (fun c oc vs tq=>fd.code= .ref c) (fun c oc vs tq=>B c=some oc) (fun c oc vs tq=>oc.data= .fields vs) (fun c oc vs tq=>vs[1]? =some (.str fd.qualname tq))
mutual
inductive c5(g:Gx)(B:Fz):V→Value→Prop
 |none:c5 g B .none .none
 |bool {b}:c5 g B (.bool b) (.bool b)
 |int {i t}:c5 g B (.int i) (.int i t)
 |str {x t}:c5 g B (.str x) (.str x t)
 |bytes {b t}:c5 g B (.bytes b) (.bytes b t)
 |tup {l a o vs n}:B a=some o→o.cls= .type "tuple"→o.data= .seq vs n→Reps g B l vs.toList→c5 g B (.tup l) (.ref a)
 |lst {l a o vs n}:o.dict=none→B a=some o→o.cls= .type "list"→o.data= .seq vs n→Reps g B l vs.toList→c5 g B (.lst l) (.ref a)
 |dct {l a o kvs}:(a==sysModules)=false→B a=some o→mQ (PySem.strKind g.prog g.w) o kvs→RepD g B l kvs→c5 g B (.dct l) (.ref a)
 |obj {C l a d o kvs}:B a=some ⟨.ref C,some d,.plain, #[]⟩→B d=some o→mQ (PySem.strKind g.prog g.w) o kvs→RepD g B l kvs→c5 g B (.obj C l) (.ref a)
 |ins {C d a}:B a=some ⟨.ref C,some d,.plain, #[]⟩→c5 g B (.ins C d) (.ref a)
 |lam {params body scope caps a o fd}:B a=some o→o.data= .func fd→y6 B params body scope fd→RepC g B caps fd.closure→c5 g B (.lam params body scope caps) (.ref a)
 |rng {r a b c t u v}:B r=some {cls:= .type "range",data:= .fields #[.int a t,.int b u,.int c v]}→c5 g B (.rng a b c) (.ref r)
 |val {v}:c5 g B (.val v) v
inductive Reps(g:Gx)(B:Fz):List V→List Value→Prop
 |nil:Reps g B [] []
 |cons {x v l vs}:c5 g B x v→Reps g B l vs→Reps g B (x::l) (v::vs)
inductive RepD(g:Gx)(B:Fz):List (Str×V)→List (Str×Value)→Prop
 |nil:RepD g B [] []
 |cons {k x v l es}:c5 g B x v→RepD g B l es→RepD g B ((k,x)::l) ((k,v)::es)
inductive RepC(g:Gx)(B:Fz):List (Str×V)→List (Str×Addr)→Prop
 |nil {es}:RepC g B [] es
 |cons {k x a o v l es}:es.lookup k=some a→B a=some o→o.data= .cell (some v)→c5 g B x v→RepC g B l es→RepC g B ((k,x)::l) es
end
inductive j5(g:Gx)(B:Fz):List (Int×V)→List (Int×Value)→Prop
 |nil:j5 g B [] []
 |cons {k x v l es}:c5 g B x v→j5 g B l es→j5 g B ((k,x)::l) ((k,v)::es)
noncomputable def Fz.Le(B B' :Fz):Prop:=∀a o,B a=some o→B' a=some o
theorem Fz.Le.refl(B:Fz):B.Le B:=fun _ _ e=>e
theorem Fz.Le.trans{B B' B'' :Fz}(x:B.Le B')(y:B'.Le B''):B.Le B'' :=fun a o e=>y a o (x a o e)
theorem Fz.Le.put{B:Fz}{a:Addr}(o:Obj)(h:B a=Option.none):B.Le (B.put a o):=fun b o' e=>by
 unfold Fz.put
 split
 ·rename_i q;rw[q,h] at e;cases e
 ·exact e
theorem y6.mono{B B' :Fz}(h:B.Le B'){params:Arguments}{body:Expr}{scope:Scope}{fd:FuncData}(x:y6 B params body scope fd):y6 B' params body scope fd:=
 {x with code:=by obtain⟨c,oc,vs,tq,a,b,r1,r2⟩:=x.code;exact⟨c,oc,vs,tq,a,h _ _ b,r1,r2⟩}
theorem Fz.put_self(B:Fz)(a:Addr)(o:Obj):B.put a o a=some o:=by simp[Fz.put]
theorem c5.mono{g:Gx}{B B' :Fz}(h:B.Le B'){x:V}{v:Value}(r:c5 g B x v):c5 g B' x v:=
 r.rec (motive_1:=fun x v _=>c5 g B' x v) (motive_2:=fun x v _=>Reps g B' x v) (motive_3:=fun x v _=>RepD g B' x v) (motive_4:=fun x v _=>RepC g B' x v) .none .bool .int .str .bytes (fun a b c _ d=> .tup (h _ _ a) b c d) (fun z a b c _ d=> .lst z (h _ _ a) b c d) (fun z a b _ d=> .dct z (h _ _ a) b d) (fun a b c _ d=> .obj (h _ _ a) (h _ _ b) c d) (fun a=> .ins (h _ _ a)) (fun a b c _ d=> .lam (h _ _ a) b (c.mono h) d) (fun a=> .rng (h _ _ a)) .val .nil (fun _ _ a b=> .cons a b) .nil (fun _ _ a b=> .cons a b) .nil (fun z a b _ _ c d=> .cons z (h _ _ a) b c d)
theorem Reps.mono{g:Gx}{B B' :Fz}(h:B.Le B'){x:List V}{v:List Value}(r:Reps g B x v):Reps g B' x v:=
 r.rec (motive_1:=fun x v _=>c5 g B' x v) (motive_2:=fun x v _=>Reps g B' x v) (motive_3:=fun x v _=>RepD g B' x v) (motive_4:=fun x v _=>RepC g B' x v) .none .bool .int .str .bytes (fun a b c _ d=> .tup (h _ _ a) b c d) (fun z a b c _ d=> .lst z (h _ _ a) b c d) (fun z a b _ d=> .dct z (h _ _ a) b d) (fun a b c _ d=> .obj (h _ _ a) (h _ _ b) c d) (fun a=> .ins (h _ _ a)) (fun a b c _ d=> .lam (h _ _ a) b (c.mono h) d) (fun a=> .rng (h _ _ a)) .val .nil (fun _ _ a b=> .cons a b) .nil (fun _ _ a b=> .cons a b) .nil (fun z a b _ _ c d=> .cons z (h _ _ a) b c d)
theorem RepD.mono{g:Gx}{B B' :Fz}(h:B.Le B'){x:List (Str×V)}{v:List (Str×Value)}(r:RepD g B x v):RepD g B' x v:=
 r.rec (motive_1:=fun x v _=>c5 g B' x v) (motive_2:=fun x v _=>Reps g B' x v) (motive_3:=fun x v _=>RepD g B' x v) (motive_4:=fun x v _=>RepC g B' x v) .none .bool .int .str .bytes (fun a b c _ d=> .tup (h _ _ a) b c d) (fun z a b c _ d=> .lst z (h _ _ a) b c d) (fun z a b _ d=> .dct z (h _ _ a) b d) (fun a b c _ d=> .obj (h _ _ a) (h _ _ b) c d) (fun a=> .ins (h _ _ a)) (fun a b c _ d=> .lam (h _ _ a) b (c.mono h) d) (fun a=> .rng (h _ _ a)) .val .nil (fun _ _ a b=> .cons a b) .nil (fun _ _ a b=> .cons a b) .nil (fun z a b _ _ c d=> .cons z (h _ _ a) b c d)
theorem RepC.mono{g:Gx}{B B' :Fz}(h:B.Le B'){x:List (Str×V)}{v:List (Str×Addr)}(r:RepC g B x v):RepC g B' x v:=
 r.rec (motive_1:=fun x v _=>c5 g B' x v) (motive_2:=fun x v _=>Reps g B' x v) (motive_3:=fun x v _=>RepD g B' x v) (motive_4:=fun x v _=>RepC g B' x v) .none .bool .int .str .bytes (fun a b c _ d=> .tup (h _ _ a) b c d) (fun z a b c _ d=> .lst z (h _ _ a) b c d) (fun z a b _ d=> .dct z (h _ _ a) b d) (fun a b c _ d=> .obj (h _ _ a) (h _ _ b) c d) (fun a=> .ins (h _ _ a)) (fun a b c _ d=> .lam (h _ _ a) b (c.mono h) d) (fun a=> .rng (h _ _ a)) .val .nil (fun _ _ a b=> .cons a b) .nil (fun _ _ a b=> .cons a b) .nil (fun z a b _ _ c d=> .cons z (h _ _ a) b c d)
theorem Reps.ind{g:Gx}{B:Fz}{P:List V→List Value→Prop}(n:P [] [])(c:∀{x v l vs},c5 g B x v→Reps g B l vs→P l vs→P (x::l) (v::vs)){l:List V}{vs:List Value}(r:Reps g B l vs):P l vs:=
 r.rec (motive_1:=fun _ _ _=>True) (motive_2:=fun l vs _=>P l vs) (motive_3:=fun _ _ _=>True) (motive_4:=fun _ _ _=>True) trivial trivial trivial trivial trivial (fun _ _ _ _ _=>trivial) (fun _ _ _ _ _ _=>trivial) (fun _ _ _ _ _=>trivial) (fun _ _ _ _ _=>trivial) (fun _=>trivial) (fun _ _ _ _ _=>trivial) (fun _=>trivial) trivial n (fun a b _ h=>c a b h) trivial (fun _ _ _ _=>trivial) trivial (fun _ _ _ _ _ _ _=>trivial)
theorem RepD.ind{g:Gx}{B:Fz}{P:List (Str×V)→List (Str×Value)→Prop}(n:P [] [])(c:∀{k x v l vs},c5 g B x v→RepD g B l vs→P l vs→P ((k,x)::l) ((k,v)::vs)){l:List (Str×V)}{vs:List (Str×Value)}(r:RepD g B l vs):P l vs:=
 r.rec (motive_1:=fun _ _ _=>True) (motive_2:=fun _ _ _=>True) (motive_3:=fun l vs _=>P l vs) (motive_4:=fun _ _ _=>True) trivial trivial trivial trivial trivial (fun _ _ _ _ _=>trivial) (fun _ _ _ _ _ _=>trivial) (fun _ _ _ _ _=>trivial) (fun _ _ _ _ _=>trivial) (fun _=>trivial) (fun _ _ _ _ _=>trivial) (fun _=>trivial) trivial trivial (fun _ _ _ _=>trivial) n (fun a b _ h=>c a b h) trivial (fun _ _ _ _ _ _ _=>trivial)
theorem j5.mono{g:Gx}{B B' :Fz}(h:B.Le B'){x:List (Int×V)}{v:List (Int×Value)}(r:j5 g B x v):j5 g B' x v:=r.rec .nil fun a _ b=> .cons (a.mono h) b
inductive Gy(i:Int):Value→Prop
 |mk (t:Tok):Gy i (.int i t)
inductive Gg(x:Str):Value→Prop
 |mk (t:Tok):Gg x (.str x t)
inductive GS(b:Array UInt8):Value→Prop
 |mk (t:Tok):GS b (.bytes b t)
inductive Gf(g:Gx)(B:Fz)(l:List V):Value→Prop
 |mk (a:Addr) (o:Obj) (vs:Array Value) (n:Nat) (h1:B a=some o) (h2:o.cls= .type "tuple") (h3:o.data= .seq vs n) (h4:Reps g B l vs.toList):Gf g B l (.ref a)
inductive Gn(g:Gx)(B:Fz)(l:List V):Value→Prop
 |mk (a:Addr) (o:Obj) (vs:Array Value) (n:Nat) (h0:o.dict=none) (h1:B a=some o) (h2:o.cls= .type "list") (h3:o.data= .seq vs n) (h4:Reps g B l vs.toList):Gn g B l (.ref a)
inductive GR(g:Gx)(B:Fz)(l:List (Str×V)):Value→Prop
 |mk (a:Addr) (o:Obj) (kvs:List (Str×Value)) (h0:(a==sysModules)=false) (h1:B a=some o) (h2:mQ (PySem.strKind g.prog g.w) o kvs) (h3:RepD g B l kvs):GR g B l (.ref a)
inductive Gm(g:Gx)(B:Fz)(C:Addr)(l:List (Str×V)):Value→Prop
 |mk (a d:Addr) (o:Obj) (kvs:List (Str×Value)) (h1:B a=some ⟨.ref C,some d,.plain, #[]⟩) (h2:B d=some o) (h3:mQ (PySem.strKind g.prog g.w) o kvs) (h4:RepD g B l kvs):Gm g B C l (.ref a)
inductive Gz(B:Fz)(C d:Addr):Value→Prop
 |mk (a:Addr) (h:B a=some ⟨.ref C,some d,.plain, #[]⟩):Gz B C d (.ref a)
inductive Go(g:Gx)(B:Fz)(params:Arguments)(body:Expr)(scope:Scope)(caps:List (Str×V)):Value→Prop
 |mk (a:Addr) (o:Obj) (fd:FuncData) (h1:B a=some o) (h2:o.data= .func fd) (h3:y6 B params body scope fd) (h4:RepC g B caps fd.closure):Go g B params body scope caps (.ref a)
inductive Gi(B:Fz)(a b c:Int):Value→Prop
 |mk (r:Addr) (t u w:Tok) (h:B r=some {cls:= .type "range",data:= .fields #[.int a t,.int b u,.int c w]}):Gi B a b c (.ref r)
noncomputable def Fs(g:Gx)(B:Fz)(x:V)(v:Value):Prop:=match x with
 | .none=>v= .none
 | .bool b=>v= .bool b
 | .int i=>Gy i v
 | .str x=>Gg x v
 | .bytes b=>GS b v
 | .tup l=>Gf g B l v
 | .lst l=>Gn g B l v
 | .dct l=>GR g B l v
 | .obj C l=>Gm g B C l v
 | .ins C d=>Gz B C d v
 | .lam params body scope caps=>Go g B params body scope caps v
 | .rng a b c=>Gi B a b c v
 | .val u=>v=u
theorem c5.inv{g:Gx}{B:Fz}{x:V}{v:Value}(h:c5 g B x v):Fs g B x v:=by
 cases h with
 |none=>exact rfl
 |bool=>exact rfl
 |int=>exact⟨_⟩
 |str=>exact⟨_⟩
 |bytes=>exact⟨_⟩
 |tup a b c d=>exact⟨_,_,_,_,a,b,c,d⟩
 |lst z a b c d=>exact⟨_,_,_,_,z,a,b,c,d⟩
 |dct z a b d=>exact⟨_,_,_,z,a,b,d⟩
 |obj a b c d=>exact⟨_,_,_,_,a,b,c,d⟩
 |ins a=>exact⟨_,a⟩
 |lam a b c d=>exact⟨_,_,_,a,b,c,d⟩
 |rng a=>exact⟨_,_,_,_,a⟩
 |val=>exact rfl
theorem Reps.length{g:Gx}{B:Fz}{l:List V}{vs:List Value}(r:Reps g B l vs):vs.length=l.length:=r.ind (P:=fun l vs=>vs.length=l.length) rfl fun _ _ h=>congrArg (·+1) h
theorem Reps.get{g:Gx}{B:Fz}{l:List V}{vs:List Value}(r:Reps g B l vs):∀{i:Nat} {x:V},l[i]? =some x→∃v,vs[i]? =some v∧c5 g B x v:=
 r.ind (P:=fun l vs=>∀{i:Nat} {x:V},l[i]? =some x→∃v,vs[i]? =some v∧c5 g B x v) (fun h=>nomatch h) fun a _ ih i x h=>by
  cases i with
  |zero=>cases h;exact⟨_,rfl,a⟩
  |succ i=>exact ih (i:=i) h
theorem Reps.get'{g:Gx}{B:Fz}{l:List V}{vs:List Value}(r:Reps g B l vs):∀{i:Nat} {v:Value},vs[i]? =some v→∃x,l[i]? =some x∧c5 g B x v:=
 r.ind (P:=fun l vs=>∀{i:Nat} {v:Value},vs[i]? =some v→∃x,l[i]? =some x∧c5 g B x v) (fun h=>nomatch h) fun a _ ih i x h=>by
  cases i with
  |zero=>cases h;exact⟨_,rfl,a⟩
  |succ i=>exact ih (i:=i) h
theorem Reps.append{g:Gx}{B:Fz}{l:List V}{vs:List Value}{l' :List V}{vs' :List Value}(r:Reps g B l vs)(h:Reps g B l' vs'):Reps g B (l++l') (vs++vs'):=
 r.ind (P:=fun l vs=>Reps g B (l++l') (vs++vs')) h fun a _ ih=> .cons a ih
noncomputable def kN(F:List Addr)(h:Heap)(a:Addr)(o:Obj):Prop:=∃sl,h.get? a=some {o with slots:=sl}∧(a∉F→sl=o.slots)
theorem kN.of_get{F:List Addr}{h:Heap}{a:Addr}{o:Obj}(e:h.get? a=some o):kN F h a o:=⟨o.slots,e,fun _=>rfl⟩
theorem kN.exact{F:List Addr}{h:Heap}{a:Addr}{o:Obj}(k:kN F h a o)(hc:a∉F):h.get? a=some o:=by
 obtain⟨sl,e,q⟩:=k
 rw[e,q hc]
theorem kN.lt{F:List Addr}{h:Heap}{a:Addr}{o:Obj}(k:kN F h a o):a<h.objs.size:=by obtain⟨_,e,_⟩:=k;exact Heap.lt_size e
theorem kN.frames{F F' :List Addr}{h:Heap}{a:Addr}{o:Obj}(k:kN F h a o)(hf:a∈F→a∈F'):kN F' h a o:=by obtain⟨sl,e,q⟩:=k;exact⟨sl,e,fun z=>q fun y=>z (hf y)⟩
noncomputable def pB(F M:List Addr)(h h' :Heap):Prop:=∀a o,h.get? a=some o→a∉M→kN F h' a o
theorem kN.stay{F F' :List Addr}{h h' :Heap}{a:Addr}{o:Obj}{M:List Addr}(k:kN F h a o)(s:pB F' M h h')(hm:a∉M)(hf:a∈F'→a∈F):kN F h' a o:=by
 obtain⟨sl,e,q⟩:=k
 obtain⟨sl',e',q'⟩:=s a _ e hm
 exact⟨sl',e',fun hc=>(q' fun z=>hc (hf z)).trans (q hc)⟩
theorem pB.trans{F F' M M' :List Addr}{h h' h'' :Heap}(x:pB F M h h')(y:pB F' M' h' h'')(hm:∀a∈M',a∈M∨h.get? a=none)(hf:∀a o,h.get? a=some o→a∈F'→a∈F):pB F M h h'' :=by
 intro a o e ha
 refine(x a o e ha).stay y (fun h1=>?_) (hf a o e)
 rcases hm a h1 with h2|h2
 ·exact ha h2
 ·rw[h2] at e;cases e
theorem pB.of_keeps{F M:List Addr}{h h' :Heap}(hk:∀a o,h.get? a=some o→a∉M→h'.get? a=some o):pB F M h h' :=fun a o e ha=> .of_get (hk a o e ha)
theorem kN.ns{F:List Addr}{h:Heap}{a:Addr}{o:Obj}{h₀:Heap}{m:Str→Option Value}(e:h₀.get? a=some o)(k:kN F h a o)(n:h₀.Ns a m):h.Ns a m:=by
 obtain⟨o',es,ep,e',hd,r⟩:=n
 rw[e] at e';cases e'
 obtain⟨sl,e2,_⟩:=k
 exact⟨_,es,ep,e2,hd,r⟩
inductive Slot where
 |loc (o:Option V)
 |cel (o:Option V)
 |fre (x:V)
 |glob
inductive OV where
 |lst (l:List V)
 |dct (l:List (Str×V))
 |idct (l:List (Int×V))
 |raw (o:Obj)
 |rev (l:List V)
 |pen (l:List V)
structure St where
 env:List (Str×Slot)
 own:List (Addr×OV)
noncomputable def f7(g:Gx)(B:Fz)(h:Heap)(a:Addr):OV→Prop
 | .lst l=>fT (fun vs n=>h.get? a=some {cls:= .type "list",data:= .seq vs n}) (fun vs n=>Reps g B l vs.toList)
 | .pen l=>∃vs,h.IsList a vs∧Reps g B l vs.toList
 | .dct l=>(a==sysModules)=false∧cJ (fun o kvs=>h.get? a=some o) (fun o kvs=>mQ (PySem.strKind g.prog g.w) o kvs) (fun o kvs=>RepD g B l kvs)
 | .idct l=>(a==sysModules)=false∧cJ (fun o kvs=>h.get? a=some o) (fun o kvs=>mQ (PySem.intKind g.prog g.w) o kvs) (fun o kvs=>j5 g B l kvs)
 | .raw o=>h.get? a=some o
 | .rev xs=>y7 (fun l o vs n=>h.get? a=some (revObj l ((vs.size:Int)-1))) (fun l o vs n=>B l=some o) (fun l o vs n=>o.cls= .type "list") (fun l o vs n=>o.data= .seq vs n) (fun l o vs n=>Reps g B xs vs.toList)
theorem f7.mono{g:Gx}{B B' :Fz}{h:Heap}{a:Addr}{ov:OV}(x:f7 g B h a ov)(hB:B.Le B'):f7 g B' h a ov:=by
 cases ov with
 |lst l=>obtain⟨vs,n,e,r⟩:=x;exact⟨vs,n,e,r.mono hB⟩
 |pen l=>obtain⟨vs,e,r⟩:=x;exact⟨vs,e,r.mono hB⟩
 |dct l=>obtain⟨z,o,k,e,r,q⟩:=x;exact⟨z,o,k,e,r,q.mono hB⟩
 |idct l=>obtain⟨z,o,k,e,r,q⟩:=x;exact⟨z,o,k,e,r,q.mono hB⟩
 |raw o=>exact x
 |rev xs=>obtain⟨l,o,vs,n,e,b,r1,r2,r3⟩:=x;exact⟨l,o,vs,n,e,hB _ _ b,r1,r2,r3.mono hB⟩
theorem f7.at{g:Gx}{B:Fz}{h h' :Heap}{a:Addr}{ov:OV}(x:f7 g B h a ov)(e:∀o,h.get? a=some o→h'.get? a=some o):f7 g B h' a ov:=by
 cases ov with
 |lst l=>obtain⟨vs,n,q,r⟩:=x;exact⟨vs,n,e _ q,r⟩
 |pen l=>obtain⟨vs,⟨o,q,z⟩,r⟩:=x;exact⟨vs,⟨o,e _ q,z⟩,r⟩
 |dct l=>obtain⟨z,o,k,q,r,r'⟩:=x;exact⟨z,o,k,e _ q,r,r'⟩
 |idct l=>obtain⟨z,o,k,q,r,r'⟩:=x;exact⟨z,o,k,e _ q,r,r'⟩
 |raw o=>exact e _ x
 |rev xs=>obtain⟨l,o,vs,n,q,r1,r2,r3,r4⟩:=x;exact⟨l,o,vs,n,e _ q,r1,r2,r3,r4⟩
theorem f7.get{g:Gx}{B:Fz}{h:Heap}{a:Addr}{ov:OV}(x:f7 g B h a ov):∃o,h.get? a=some o:=by
 cases ov with
 |lst l=>obtain⟨vs,n,q,r⟩:=x;exact⟨_,q⟩
 |pen l=>obtain⟨vs,⟨o,q,z⟩,r⟩:=x;exact⟨_,q⟩
 |dct l=>obtain⟨z,o,k,q,r⟩:=x;exact⟨_,q⟩
 |idct l=>obtain⟨z,o,k,q,r⟩:=x;exact⟨_,q⟩
 |raw o=>exact⟨_,x⟩
 |rev xs=>obtain⟨l,o,vs,n,q,r⟩:=x;exact⟨_,q⟩
theorem f7.list{g:Gx}{B:Fz}{h:Heap}{a:Addr}{l:List V}(x:f7 g B h a (.lst l)):f7 g B h a (.pen l):=by obtain⟨vs,n,e,r⟩:=x;exact⟨vs,⟨_,e,rfl,n,rfl⟩,r⟩
noncomputable def sX(h:Heap)(a:Addr)(vs:Array Value):Prop:=∃o,h.get? a=some o∧o.cls= .type "list"∧∃n,o.data= .seq vs n∧o.dict=none∧o.slots= #[]
theorem sX.at{h h' :Heap}{a:Addr}{vs:Array Value}(x:sX h a vs)(e:∀o,h.get? a=some o→h'.get? a=some o):sX h' a vs:=by obtain⟨o,q,r⟩:=x;exact⟨o,e _ q,r⟩
theorem sX.exact{h:Heap}{a:Addr}{vs:Array Value}(x:sX h a vs):∃n,h.get? a=some {cls:= .type "list",data:= .seq vs n}:=by
 obtain⟨⟨c,d,dt,sl⟩,q,h1,n,h2,h3,h4⟩:=x
 simp only at h1 h2 h3 h4
 subst h1 h2 h3 h4
 exact⟨n,q⟩
theorem vP{prog:Program}{w:World}{A:Around}{E:Value→Shared→Prop}{s:Shared}{l:Addr}{items:Array Value}{x:Value}{Q:Value→Shared→Prop}(hl:sX s.heap l items)
  (h:∀h',sX h' l (items.push x)→Heap.SameBut l s.heap h'→Q .none {s with heap:=h'}) (hz:items.size≤sizeLine):wpAny (model prog w) A (call (.builtin "list.append") [.ref l,x]) Q E s:=by
 obtain⟨n,e⟩:=hl.exact
 refine call_meets PySem.F.slot_list_append ⟨_,e,rfl⟩ PySem.F.entry_list_append (PySem.F.args_list_append_2 _ _) (PySem.AutoListH.list_append_list_val_0 l items n x hz) ⟨e,?_⟩
 have u:=PySem.IsL.update e (fun xs=>xs.push x)
 exact h _ ⟨_,u,rfl,_,rfl,rfl,rfl⟩ (Heap.SameBut.update ..)
structure Cx where
 g:Gx
 A:Around
 env:Env
 fenv:Env
 outer:List Env
 s0:Shared
 lent:List Addr
 B0:Fz
 pins:List (Addr×Obj)
 lvl:Nat
noncomputable def Cx.F(c:Cx):List Addr:=(c.fenv::c.outer).filterMap (·.frame)
noncomputable def xN(env:Env)(p:Str×Slot):Option Addr:=p.2.rec (fun _=>none) (fun _=>env.cells.lookup p.1) (fun _=>none) none
noncomputable def cels(env:Env)(l:List (Str×Slot)):List Addr:=l.filterMap (xN env)
noncomputable def bF(c:Cx)(σ:St):List Addr:=c.env.locals::(cels c.env σ.env++σ.own.map (·.1))
noncomputable def qH(c:Cx)(a:Addr):Prop:=c.s0.heap.objs.size≤a
structure vW(c:Cx):Prop where
 kind:c.env.scope.kind= .function
 handled:c.A.handled=none
 globals:c.env.globals=mainGlobals
 builtins:c.env.builtins=builtinsNs
 depth:c.A.depth+4*c.lvl≤900
 units:c.A.units+30*c.lvl≤9000
 frames:c.A.frames=some (c.fenv::c.outer)
 fkind:c.fenv.scope.kind≠ .module
 fsame:c.env.frame=c.fenv.frame
 flive:∃L,c.fenv.frame=some L∧c.s0.heap.objs.size≤L∧(L=c.env.locals∨∃o,(L,o)∈c.pins∧∀vs,o.data≠ .fields vs)
 outer:∀e∈c.outer,e.scope.kind≠ .module∧E2x5 (fun L o=>e.frame=some L) (fun L o=>c.B0 L=none) (fun L o=>c.s0.heap.get? L=some o) (fun L o=>(∀vs,o.data≠ .fields vs)) (fun L o=>L∉c.lent)
structure mR(c:Cx)(M:List Addr)(B:Fz)(s:Shared):Prop where
 ok:vW c
 rest:pJ (fun h tk=>s={c.s0 with heap:=h,toks:=tk})
 size:c.s0.heap.objs.size≤s.heap.objs.size
 stay:pB c.F c.lent c.s0.heap s.heap
 TB:∀a o,c.g.T.get? a=some o→B a=some o
 frz:∀a o,B a=some o→s.heap.get? a=some o
 Bold:c.B0.Le B
 Bnew:∀a o,B a=some o→a<c.s0.heap.objs.size→c.B0 a=some o
 pins:∀p∈c.pins,kN c.F s.heap p.1 p.2
 pfree:∀p∈c.pins,B p.1=none∧(p.1∈c.lent∨c.s0.heap.objs.size≤p.1)
 nod:M.Nodup
 mt:∀a∈M,B a=none∧(a∈c.lent∨c.s0.heap.objs.size≤a)∧(∀p∈c.pins,p.1≠a)∧a<s.heap.objs.size
noncomputable def lG(c:Cx)(B:Fz)(h:Heap)(m:Str→Option Value)(x:Str):Slot→Prop
 | .loc o=>c.env.kindOf x=some .local∧∀X,o=some X→∃v,m x=some v∧c5 c.g B X v
 | .cel o=>c.env.kindOf x=some .cell∧cJ (fun a vo=>c.env.cells.lookup x=some a) (fun a vo=>h.IsCell a vo) (fun a vo=>∀X,o=some X→∃v,vo=some v∧c5 c.g B X v)
 | .fre X=>(c.env.kindOf x=some .cell∨(c.env.kindOf x=some .free∧(x==("__classdict__" :Str))=false))∧gY (fun a o v=>c.env.cells.lookup x=some a) (fun a o v=>((a,o)∈c.pins∨B a=some o)) (fun a o v=>o.data= .cell (some v)) (fun a o v=>c5 c.g B X v)
 | .glob=>c.env.kindOf x=some .globalImplicit
structure Conc(c:Cx)(σ:St)(B:Fz)(s:Shared):Prop where
 base:mR c (bF c σ) B s
 names:(σ.env.map (·.1)).Nodup∧∀p∈σ.env,(p.1==("__debug__" :Str))=false
 vars:∃m,s.heap.Ns c.env.locals m∧∀p∈σ.env,lG c B s.heap m p.1 p.2
 own:∀p∈σ.own,f7 c.g B s.heap p.1 p.2
theorem mR.step{c:Cx}{M:List Addr}{B:Fz}{s:Shared}(x:mR c M B s){h' :Heap}{tk:Nat}
  (hk:∀a o,s.heap.get? a=some o→a∉M→h'.get? a=some o) (hs:s.heap.objs.size≤h'.objs.size):mR c M B {s with heap:=h',toks:=tk} where
 ok:=x.ok
 rest:=by obtain⟨_,_,e⟩:=x.rest;exact⟨h',tk,by rw[e]⟩
 size:=Nat.le_trans x.size hs
 stay:=x.stay.trans (pB.of_keeps (F:=c.F) (M:=M) hk) (fun a ha=>by
  rcases(x.mt a ha).2.1 with h1|h1
  ·exact .inl h1
  ·refine .inr ?_
   cases e:c.s0.heap.get? a with
   |none=>rfl
   |some o=>exact absurd (Heap.lt_size e) (Nat.not_lt.mpr h1)) fun _ _ _ z=>z
 TB:=x.TB
 frz:=fun a o e=>hk a o (x.frz a o e) fun hm=>by rw[(x.mt a hm).1] at e;cases e
 Bold:=x.Bold
 Bnew:=x.Bnew
 pins:=fun p hp=>(x.pins p hp).stay (pB.of_keeps (F:=c.F) (M:=M) hk) (fun hm=>(x.mt p.1 hm).2.2.1 p hp rfl) id
 pfree:=x.pfree
 nod:=x.nod
 mt:=fun a ha=>by obtain⟨h1,h2,h3,h4⟩:=x.mt a ha;exact⟨h1,h2,h3,Nat.lt_of_lt_of_le h4 hs⟩
theorem mR.perm{c:Cx}{M M' :List Addr}{B:Fz}{s:Shared}(x:mR c M B s)(p:M.Perm M'):mR c M' B s:=
 {x with nod:=p.nodup_iff.mp x.nod,mt:=fun a ha=>x.mt a (p.mem_iff.mpr ha)}
theorem mR.fresh{c:Cx}{M:List Addr}{B:Fz}{s:Shared}(x:mR c M B s):B s.heap.objs.size=none:=by
 cases e:B s.heap.objs.size with
 |none=>rfl
 |some o=>exact absurd (Heap.lt_size (x.frz _ _ e)) (Nat.lt_irrefl _)
theorem mR.notMut{c:Cx}{M:List Addr}{B:Fz}{s:Shared}(x:mR c M B s):s.heap.objs.size∉M:=fun h=>absurd (x.mt _ h).2.2.2 (Nat.lt_irrefl _)
theorem mR.freeze{c:Cx}{M:List Addr}{B:Fz}{s:Shared}(x:mR c M B s){a:Addr}{o:Obj}(e:s.heap.get? a=some o)(hb:B a=none)(hn:c.s0.heap.objs.size≤a)(hm:a∉M)(hp:∀p∈c.pins,p.1≠a):mR c M (B.put a o) s:=
 {x with
  TB:=fun b o' q=>Fz.Le.put o hb b o' (x.TB b o' q)
  frz:=fun b o' q=>by
   unfold Fz.put at q
   split at q
   ·rename_i z;cases q;rw[z];exact e
   ·exact x.frz b o' q
  Bold:=x.Bold.trans (Fz.Le.put o hb)
  Bnew:=fun b o' q hl=>by
   unfold Fz.put at q
   split at q
   ·rename_i z;rw[z] at hl;exact absurd hl (Nat.not_lt.mpr hn)
   ·exact x.Bnew b o' q hl
  pfree:=fun p hq=>⟨by unfold Fz.put;rw[if_neg (hp p hq)];exact(x.pfree p hq).1,(x.pfree p hq).2⟩
  mt:=fun b hb' =>⟨by unfold Fz.put;rw[if_neg fun(z:b=a)=>hm (z▸hb')];exact(x.mt b hb').1,(x.mt b hb').2⟩}
theorem lG.step{c:Cx}{B B' :Fz}{h h' :Heap}{m:Str→Option Value}{x:Str}{sl:Slot}(v:lG c B h m x sl)(hB:B.Le B')
  (hc:∀a vo,(∃o,sl= .cel o)→c.env.cells.lookup x=some a→h.IsCell a vo→h'.IsCell a vo):lG c B' h' m x sl:=by
 cases sl with
 |loc o=>exact⟨v.1,fun X e=>by obtain⟨u,q,r⟩:=v.2 X e;exact⟨u,q,r.mono hB⟩⟩
 |cel o=>
  obtain⟨k,a,vo,e,q,r⟩:=v
  exact⟨k,a,vo,e,hc a vo ⟨o,rfl⟩ e q,fun X z=>by obtain⟨u,y,w⟩:=r X z;exact⟨u,y,w.mono hB⟩⟩
 |fre X=>
  obtain⟨k,a,o,u,e,q,r,w⟩:=v
  exact⟨k,a,o,u,e,q.imp id (hB a o),r,w.mono hB⟩
 |glob=>exact v
theorem eE{env:Env}{x:Str}{o:Option V}{a:Addr}(e:env.cells.lookup x=some a){l:List (Str×Slot)}(h:(x,Slot.cel o)∈l):a∈cels env l:=List.mem_filterMap.mpr ⟨_,h,e⟩
theorem jZ{env:Env}{p:Str×Slot}{r:List (Str×Slot)}(h:xN env p=none):cels env (p::r)=cels env r:=List.filterMap_cons_none h
theorem fL{env:Env}{p:Str×Slot}{r:List (Str×Slot)}{a:Addr}(h:xN env p=some a):cels env (p::r)=a::cels env r:=List.filterMap_cons_some h
theorem k6{env:Env}{p p' :Str×Slot}{r r' :List (Str×Slot)}(hp:xN env p' =xN env p)(h:cels env r' =cels env r):cels env (p' ::r')=cels env (p::r):=by
 cases e:xN env p with
 |none=>exact(jZ (hp.trans e)).trans (h.trans (jZ e).symm)
 |some a=>exact(fL (hp.trans e)).trans ((congrArg (a::·) h).trans (fL e).symm)
theorem bF.local_mem(c:Cx)(σ:St):c.env.locals∈bF c σ:=List.mem_cons_self ..
theorem bF.cel_mem{c:Cx}{σ:St}{a:Addr}(h:a∈cels c.env σ.env):a∈bF c σ:=List.mem_cons_of_mem _ (List.mem_append_left _ h)
theorem bF.own_mem{c:Cx}{σ:St}{a:Addr}(h:a∈σ.own.map (·.1)):a∈bF c σ:=List.mem_cons_of_mem _ (List.mem_append_right _ h)
theorem Conc.grow{c:Cx}{σ:St}{B:Fz}{s:Shared}(x:Conc c σ B s){h' :Heap}{tk:Nat}(hk:∀a o,s.heap.get? a=some o→h'.get? a=some o)(hs:s.heap.objs.size≤h'.objs.size):
  Conc c σ B {s with heap:=h',toks:=tk} where
 base:=x.base.step (fun a o e _=>hk a o e) hs
 names:=x.names
 vars:=by obtain⟨m,n,v⟩:=x.vars;exact⟨m,n.keeps hk,fun p hp=>(v p hp).step (Fz.Le.refl _) fun _ _ _ _ q=>q.keeps hk⟩
 own:=fun p hp=>(x.own p hp).at fun o e=>hk _ o e
theorem Conc.toks{c:Cx}{σ:St}{B:Fz}{s:Shared}(x:Conc c σ B s)(tk:Nat):Conc c σ B {s with toks:=tk}:=x.grow (h' :=s.heap) (fun _ _ e=>e) (Nat.le_refl _)
theorem Conc.push{c:Cx}{σ:St}{B:Fz}{s:Shared}(x:Conc c σ B s)(o:Obj)(tk:Nat):Conc c σ B {s with heap:=s.heap.push o,toks:=tk}:=
 x.grow (fun _ _ e=>Heap.get?_push_of_some _ e) (by rw[Heap.size_push];omega)
theorem Conc.freeze{c:Cx}{σ:St}{B:Fz}{s:Shared}(x:Conc c σ B s){a:Addr}{o:Obj}(e:s.heap.get? a=some o)(hb:B a=none)(hn:c.s0.heap.objs.size≤a)(hm:a∉bF c σ)(hp:∀p∈c.pins,p.1≠a):Conc c σ (B.put a o) s where
 base:=x.base.freeze e hb hn hm hp
 names:=x.names
 vars:=by obtain⟨m,n,v⟩:=x.vars;exact⟨m,n,fun p hp=>(v p hp).step (Fz.Le.put o hb) fun _ _ _ _ q=>q⟩
 own:=fun p hp=>(x.own p hp).mono (Fz.Le.put o hb)
theorem Conc.pushF{c:Cx}{σ:St}{B:Fz}{s:Shared}(x:Conc c σ B s)(o:Obj)(tk:Nat)(hf:autoParam (o.isFreed=false) c8):
  Conc c σ (B.put s.heap.objs.size o) {s with heap:=s.heap.push o,toks:=tk}∧B.Le (B.put s.heap.objs.size o):=by
 have hb:=x.base.fresh
 refine⟨(x.push o tk).freeze (Heap.get?_push_size _ hf) hb x.base.size x.base.notMut fun p hp e=>?_,Fz.Le.put o hb⟩
 exact absurd (e▸(x.base.pins p hp).lt) (Nat.lt_irrefl _)
theorem Conc.pushO{c:Cx}{σ:St}{B:Fz}{s:Shared}(x:Conc c σ B s)(o:Obj)(ov:OV)(tk:Nat)(ho:f7 c.g B (s.heap.push o) s.heap.objs.size ov):
  Conc c {σ with own:=(s.heap.objs.size,ov)::σ.own} B {s with heap:=s.heap.push o,toks:=tk}:=by
 have y:=x.push o tk
 refine⟨?_,y.names,y.vars,fun p hp=>?_⟩
 ·have z:=y.base
  refine{z with nod:= ?_,mt:=fun a ha=>?_}
  ·have h1:=z.nod
   have h2:=x.base.notMut
   simp only[bF,List.map_cons,List.nodup_cons,List.nodup_append,List.mem_append,List.mem_cons,not_or] at h1 h2 ⊢
   obtain⟨⟨h3,h4⟩,h5,h6,h7⟩:=h1
   obtain⟨h8,h9,h10⟩:=h2
   refine⟨⟨h3,fun e=>h8 e.symm,h4⟩,h5,⟨h10,h6⟩,fun a ha b hb=>?_⟩
   rcases hb with rfl|hb
   ·exact fun e=>h9 (e▸ha)
   ·exact h7 a ha b hb
  ·by_cases e:a=s.heap.objs.size
   ·subst e
    refine⟨x.base.fresh,.inr x.base.size,fun p hp q=>absurd (q▸(x.base.pins p hp).lt) (Nat.lt_irrefl _),by simp[Heap.size_push]⟩
   ·refine z.mt a ?_
    simp only[bF,List.map_cons,List.mem_cons,List.mem_append] at ha ⊢
    rcases ha with h|h|h|h
    ·exact .inl h
    ·exact .inr (.inl h)
    ·exact absurd h e
    ·exact .inr (.inr h)
 ·rcases List.mem_cons.mp hp with rfl|hp
  ·exact ho
  ·exact y.own p hp
end
theorem aG{A B G:Prop}(h:A∧B)(k:A→B→G):G:=k h.1 h.2
theorem eT{A B C G:Prop}(h:A∧B∧C)(k:A→B→C→G):G:=k h.1 h.2.1 h.2.2
theorem m7{A B C D G:Prop}(h:A∧B∧C∧D)(k:A→B→C→D→G):G:=k h.1 h.2.1 h.2.2.1 h.2.2.2
theorem j4{A B C D E G:Prop}(h:A∧B∧C∧D∧E)(k:A→B→C→D→E→G):G:=k h.1 h.2.1 h.2.2.1 h.2.2.2.1 h.2.2.2.2
theorem He{A B C D E F G:Prop}(h:A∧B∧C∧D∧E∧F)(k:A→B→C→D→E→F→G):G:=k h.1 h.2.1 h.2.2.1 h.2.2.2.1 h.2.2.2.2.1 h.2.2.2.2.2
theorem cI{α:Type}{p:α→Prop}{G:Prop}(h:∃x,p x)(k:∀x,p x→G):G:=Exists.rec (motive:=fun _=>G) k h
theorem aH{α:Type}{p q:α→Prop}{G:Prop}(h:∃x,p x∧q x)(k:∀x,p x→q x→G):G:=cI h fun x h=>k x h.1 h.2
theorem dT{α:Type}{p q r:α→Prop}{G:Prop}(h:∃x,p x∧q x∧r x)(k:∀x,p x→q x→r x→G):G:=cI h fun x h=>k x h.1 h.2.1 h.2.2
theorem Bi{α:Type}{p q r s:α→Prop}{G:Prop}(h:∃x,p x∧q x∧r x∧s x)(k:∀x,p x→q x→r x→s x→G):G:=cI h fun x h=>k x h.1 h.2.1 h.2.2.1 h.2.2.2
theorem Hb{α:Type}{p q r s t:α→Prop}{G:Prop}(h:∃x,p x∧q x∧r x∧s x∧t x)(k:∀x,p x→q x→r x→s x→t x→G):G:=cI h fun x h=>k x h.1 h.2.1 h.2.2.1 h.2.2.2.1 h.2.2.2.2
theorem Cu{α:Type}{p q r s t u:α→Prop}{G:Prop}(h:∃x,p x∧q x∧r x∧s x∧t x∧u x)(k:∀x,p x→q x→r x→s x→t x→u x→G):G:=cI h fun x h=>k x h.1 h.2.1 h.2.2.1 h.2.2.2.1 h.2.2.2.2.1 h.2.2.2.2.2
theorem m0{A B G:Prop}(h:A∨B)(l:A→G)(r:B→G):G:=Or.rec (motive:=fun _=>G) l r h
theorem bI{p q c:Prop}[d:Decidable c](h:if c then p else q):if c then p else q:=h
theorem bL{p q c:Prop}[d:Decidable c](h1:c→p)(h2:¬c→q):if c then p else q:=Decidable.rec (motive:=fun d=> @ite Prop c d p q) h2 h1 d
theorem pJ.e{α0 α1:Type}{p0:α0→α1→Prop}{G:Prop}(h:pJ p0)(k:∀(a0:α0) (a1:α1) (h0:p0 a0 a1),G):G:=pJ.rec (motive:=fun _=>G) k h
theorem fT.e{α0 α1:Type}{p0 p1:α0→α1→Prop}{G:Prop}(h:fT p0 p1)(k:∀(a0:α0) (a1:α1) (h0:p0 a0 a1) (h1:p1 a0 a1),G):G:=fT.rec (motive:=fun _=>G) k h
theorem cJ.e{α0 α1:Type}{p0 p1 p2:α0→α1→Prop}{G:Prop}(h:cJ p0 p1 p2)(k:∀(a0:α0) (a1:α1) (h0:p0 a0 a1) (h1:p1 a0 a1) (h2:p2 a0 a1),G):G:=cJ.rec (motive:=fun _=>G) k h
theorem cW.e{α0 α1:Type}{p0 p1 p2 p3:α0→α1→Prop}{G:Prop}(h:cW p0 p1 p2 p3)(k:∀(a0:α0) (a1:α1) (h0:p0 a0 a1) (h1:p1 a0 a1) (h2:p2 a0 a1) (h3:p3 a0 a1),G):G:=cW.rec (motive:=fun _=>G) k h
theorem E2x5.e{α0 α1:Type}{p0 p1 p2 p3 p4:α0→α1→Prop}{G:Prop}(h:E2x5 p0 p1 p2 p3 p4)(k:∀(a0:α0) (a1:α1) (h0:p0 a0 a1) (h1:p1 a0 a1) (h2:p2 a0 a1) (h3:p3 a0 a1) (h4:p4 a0 a1),G):G:=E2x5.rec (motive:=fun _=>G) k h
theorem E2x6.e{α0 α1:Type}{p0 p1 p2 p3 p4 p5:α0→α1→Prop}{G:Prop}(h:E2x6 p0 p1 p2 p3 p4 p5)(k:∀(a0:α0) (a1:α1) (h0:p0 a0 a1) (h1:p1 a0 a1) (h2:p2 a0 a1) (h3:p3 a0 a1) (h4:p4 a0 a1) (h5:p5 a0 a1),G):G:=E2x6.rec (motive:=fun _=>G) k h
theorem sF.e{α0 α1 α2:Type}{p0 p1:α0→α1→α2→Prop}{G:Prop}(h:sF p0 p1)(k:∀(a0:α0) (a1:α1) (a2:α2) (h0:p0 a0 a1 a2) (h1:p1 a0 a1 a2),G):G:=sF.rec (motive:=fun _=>G) k h
theorem jP.e{α0 α1 α2:Type}{p0 p1 p2:α0→α1→α2→Prop}{G:Prop}(h:jP p0 p1 p2)(k:∀(a0:α0) (a1:α1) (a2:α2) (h0:p0 a0 a1 a2) (h1:p1 a0 a1 a2) (h2:p2 a0 a1 a2),G):G:=jP.rec (motive:=fun _=>G) k h
theorem gY.e{α0 α1 α2:Type}{p0 p1 p2 p3:α0→α1→α2→Prop}{G:Prop}(h:gY p0 p1 p2 p3)(k:∀(a0:α0) (a1:α1) (a2:α2) (h0:p0 a0 a1 a2) (h1:p1 a0 a1 a2) (h2:p2 a0 a1 a2) (h3:p3 a0 a1 a2),G):G:=gY.rec (motive:=fun _=>G) k h
theorem y9.e{α0 α1 α2:Type}{p0 p1 p2 p3 p4:α0→α1→α2→Prop}{G:Prop}(h:y9 p0 p1 p2 p3 p4)(k:∀(a0:α0) (a1:α1) (a2:α2) (h0:p0 a0 a1 a2) (h1:p1 a0 a1 a2) (h2:p2 a0 a1 a2) (h3:p3 a0 a1 a2) (h4:p4 a0 a1 a2),G):G:=y9.rec (motive:=fun _=>G) k h
theorem y8.e{α0 α1 α2:Type}{p0 p1 p2 p3 p4 p5:α0→α1→α2→Prop}{G:Prop}(h:y8 p0 p1 p2 p3 p4 p5)(k:∀(a0:α0) (a1:α1) (a2:α2) (h0:p0 a0 a1 a2) (h1:p1 a0 a1 a2) (h2:p2 a0 a1 a2) (h3:p3 a0 a1 a2) (h4:p4 a0 a1 a2) (h5:p5 a0 a1 a2),G):G:=y8.rec (motive:=fun _=>G) k h
theorem E3x7.e{α0 α1 α2:Type}{p0 p1 p2 p3 p4 p5 p6:α0→α1→α2→Prop}{G:Prop}(h:E3x7 p0 p1 p2 p3 p4 p5 p6)(k:∀(a0:α0) (a1:α1) (a2:α2) (h0:p0 a0 a1 a2) (h1:p1 a0 a1 a2) (h2:p2 a0 a1 a2) (h3:p3 a0 a1 a2) (h4:p4 a0 a1 a2) (h5:p5 a0 a1 a2) (h6:p6 a0 a1 a2),G):G:=E3x7.rec (motive:=fun _=>G) k h
theorem t5.e{α0 α1 α2 α3:Type}{p0 p1:α0→α1→α2→α3→Prop}{G:Prop}(h:t5 p0 p1)(k:∀(a0:α0) (a1:α1) (a2:α2) (a3:α3) (h0:p0 a0 a1 a2 a3) (h1:p1 a0 a1 a2 a3),G):G:=t5.rec (motive:=fun _=>G) k h
theorem E4x3.e{α0 α1 α2 α3:Type}{p0 p1 p2:α0→α1→α2→α3→Prop}{G:Prop}(h:E4x3 p0 p1 p2)(k:∀(a0:α0) (a1:α1) (a2:α2) (a3:α3) (h0:p0 a0 a1 a2 a3) (h1:p1 a0 a1 a2 a3) (h2:p2 a0 a1 a2 a3),G):G:=E4x3.rec (motive:=fun _=>G) k h
theorem jO.e{α0 α1 α2 α3:Type}{p0 p1 p2 p3:α0→α1→α2→α3→Prop}{G:Prop}(h:jO p0 p1 p2 p3)(k:∀(a0:α0) (a1:α1) (a2:α2) (a3:α3) (h0:p0 a0 a1 a2 a3) (h1:p1 a0 a1 a2 a3) (h2:p2 a0 a1 a2 a3) (h3:p3 a0 a1 a2 a3),G):G:=jO.rec (motive:=fun _=>G) k h
theorem y7.e{α0 α1 α2 α3:Type}{p0 p1 p2 p3 p4:α0→α1→α2→α3→Prop}{G:Prop}(h:y7 p0 p1 p2 p3 p4)(k:∀(a0:α0) (a1:α1) (a2:α2) (a3:α3) (h0:p0 a0 a1 a2 a3) (h1:p1 a0 a1 a2 a3) (h2:p2 a0 a1 a2 a3) (h3:p3 a0 a1 a2 a3) (h4:p4 a0 a1 a2 a3),G):G:=y7.rec (motive:=fun _=>G) k h
theorem BA.e{α0 α1 α2 α3:Type}{p0 p1 p2 p3 p4 p5:α0→α1→α2→α3→Prop}{G:Prop}(h:BA p0 p1 p2 p3 p4 p5)(k:∀(a0:α0) (a1:α1) (a2:α2) (a3:α3) (h0:p0 a0 a1 a2 a3) (h1:p1 a0 a1 a2 a3) (h2:p2 a0 a1 a2 a3) (h3:p3 a0 a1 a2 a3) (h4:p4 a0 a1 a2 a3) (h5:p5 a0 a1 a2 a3),G):G:=BA.rec (motive:=fun _=>G) k h
theorem Bz.e{α0 α1 α2 α3 α4:Type}{p0 p1 p2:α0→α1→α2→α3→α4→Prop}{G:Prop}(h:Bz p0 p1 p2)(k:∀(a0:α0) (a1:α1) (a2:α2) (a3:α3) (a4:α4) (h0:p0 a0 a1 a2 a3 a4) (h1:p1 a0 a1 a2 a3 a4) (h2:p2 a0 a1 a2 a3 a4),G):G:=Bz.rec (motive:=fun _=>G) k h
theorem By.e{α0 α1 α2 α3 α4:Type}{p0 p1 p2 p3:α0→α1→α2→α3→α4→Prop}{G:Prop}(h:By p0 p1 p2 p3)(k:∀(a0:α0) (a1:α1) (a2:α2) (a3:α3) (a4:α4) (h0:p0 a0 a1 a2 a3 a4) (h1:p1 a0 a1 a2 a3 a4) (h2:p2 a0 a1 a2 a3 a4) (h3:p3 a0 a1 a2 a3 a4),G):G:=By.rec (motive:=fun _=>G) k h
theorem Bx.e{α0 α1 α2 α3 α4:Type}{p0 p1 p2 p3 p4:α0→α1→α2→α3→α4→Prop}{G:Prop}(h:Bx p0 p1 p2 p3 p4)(k:∀(a0:α0) (a1:α1) (a2:α2) (a3:α3) (a4:α4) (h0:p0 a0 a1 a2 a3 a4) (h1:p1 a0 a1 a2 a3 a4) (h2:p2 a0 a1 a2 a3 a4) (h3:p3 a0 a1 a2 a3 a4) (h4:p4 a0 a1 a2 a3 a4),G):G:=Bx.rec (motive:=fun _=>G) k h
theorem A3.e{α0 α1 α2 α3 α4:Type}{p0 p1 p2 p3 p4 p5:α0→α1→α2→α3→α4→Prop}{G:Prop}(h:A3 p0 p1 p2 p3 p4 p5)(k:∀(a0:α0) (a1:α1) (a2:α2) (a3:α3) (a4:α4) (h0:p0 a0 a1 a2 a3 a4) (h1:p1 a0 a1 a2 a3 a4) (h2:p2 a0 a1 a2 a3 a4) (h3:p3 a0 a1 a2 a3 a4) (h4:p4 a0 a1 a2 a3 a4) (h5:p5 a0 a1 a2 a3 a4),G):G:=A3.rec (motive:=fun _=>G) k h
theorem lJ.e{α0 α1 α2 α3 α4:Type}{p0 p1 p2 p3 p4 p5 p6 p7 p8:α0→α1→α2→α3→α4→Prop}{G:Prop}(h:lJ p0 p1 p2 p3 p4 p5 p6 p7 p8)(k:∀(a0:α0) (a1:α1) (a2:α2) (a3:α3) (a4:α4) (h0:p0 a0 a1 a2 a3 a4) (h1:p1 a0 a1 a2 a3 a4) (h2:p2 a0 a1 a2 a3 a4) (h3:p3 a0 a1 a2 a3 a4) (h4:p4 a0 a1 a2 a3 a4) (h5:p5 a0 a1 a2 a3 a4) (h6:p6 a0 a1 a2 a3 a4) (h7:p7 a0 a1 a2 a3 a4) (h8:p8 a0 a1 a2 a3 a4),G):G:=lJ.rec (motive:=fun _=>G) k h
theorem pY.e{α0 α1 α2 α3 α4:Type}{p0 p1 p2 p3 p4 p5 p6 p7 p8 p9 p10:α0→α1→α2→α3→α4→Prop}{G:Prop}(h:pY p0 p1 p2 p3 p4 p5 p6 p7 p8 p9 p10)(k:∀(a0:α0) (a1:α1) (a2:α2) (a3:α3) (a4:α4) (h0:p0 a0 a1 a2 a3 a4) (h1:p1 a0 a1 a2 a3 a4) (h2:p2 a0 a1 a2 a3 a4) (h3:p3 a0 a1 a2 a3 a4) (h4:p4 a0 a1 a2 a3 a4) (h5:p5 a0 a1 a2 a3 a4) (h6:p6 a0 a1 a2 a3 a4) (h7:p7 a0 a1 a2 a3 a4) (h8:p8 a0 a1 a2 a3 a4) (h9:p9 a0 a1 a2 a3 a4) (h10:p10 a0 a1 a2 a3 a4),G):G:=pY.rec (motive:=fun _=>G) k h
theorem A2.e{α0 α1 α2 α3 α4 α5:Type}{p0 p1 p2:α0→α1→α2→α3→α4→α5→Prop}{G:Prop}(h:A2 p0 p1 p2)(k:∀(a0:α0) (a1:α1) (a2:α2) (a3:α3) (a4:α4) (a5:α5) (h0:p0 a0 a1 a2 a3 a4 a5) (h1:p1 a0 a1 a2 a3 a4 a5) (h2:p2 a0 a1 a2 a3 a4 a5),G):G:=A2.rec (motive:=fun _=>G) k h
theorem A1.e{α0 α1 α2 α3 α4 α5:Type}{p0 p1 p2 p3:α0→α1→α2→α3→α4→α5→Prop}{G:Prop}(h:A1 p0 p1 p2 p3)(k:∀(a0:α0) (a1:α1) (a2:α2) (a3:α3) (a4:α4) (a5:α5) (h0:p0 a0 a1 a2 a3 a4 a5) (h1:p1 a0 a1 a2 a3 a4 a5) (h2:p2 a0 a1 a2 a3 a4 a5) (h3:p3 a0 a1 a2 a3 a4 a5),G):G:=A1.rec (motive:=fun _=>G) k h
theorem t0.e{α0 α1 α2 α3 α4 α5:Type}{p0 p1 p2 p3 p4:α0→α1→α2→α3→α4→α5→Prop}{G:Prop}(h:t0 p0 p1 p2 p3 p4)(k:∀(a0:α0) (a1:α1) (a2:α2) (a3:α3) (a4:α4) (a5:α5) (h0:p0 a0 a1 a2 a3 a4 a5) (h1:p1 a0 a1 a2 a3 a4 a5) (h2:p2 a0 a1 a2 a3 a4 a5) (h3:p3 a0 a1 a2 a3 a4 a5) (h4:p4 a0 a1 a2 a3 a4 a5),G):G:=t0.rec (motive:=fun _=>G) k h
theorem sZ.e{α0 α1 α2 α3 α4 α5:Type}{p0 p1 p2 p3 p4 p5:α0→α1→α2→α3→α4→α5→Prop}{G:Prop}(h:sZ p0 p1 p2 p3 p4 p5)(k:∀(a0:α0) (a1:α1) (a2:α2) (a3:α3) (a4:α4) (a5:α5) (h0:p0 a0 a1 a2 a3 a4 a5) (h1:p1 a0 a1 a2 a3 a4 a5) (h2:p2 a0 a1 a2 a3 a4 a5) (h3:p3 a0 a1 a2 a3 a4 a5) (h4:p4 a0 a1 a2 a3 a4 a5) (h5:p5 a0 a1 a2 a3 a4 a5),G):G:=sZ.rec (motive:=fun _=>G) k h
theorem A0.e{α0 α1 α2 α3 α4 α5:Type}{p0 p1 p2 p3 p4 p5 p6:α0→α1→α2→α3→α4→α5→Prop}{G:Prop}(h:A0 p0 p1 p2 p3 p4 p5 p6)(k:∀(a0:α0) (a1:α1) (a2:α2) (a3:α3) (a4:α4) (a5:α5) (h0:p0 a0 a1 a2 a3 a4 a5) (h1:p1 a0 a1 a2 a3 a4 a5) (h2:p2 a0 a1 a2 a3 a4 a5) (h3:p3 a0 a1 a2 a3 a4 a5) (h4:p4 a0 a1 a2 a3 a4 a5) (h5:p5 a0 a1 a2 a3 a4 a5) (h6:p6 a0 a1 a2 a3 a4 a5),G):G:=A0.rec (motive:=fun _=>G) k h
theorem zZ.e{α0 α1 α2 α3 α4 α5 α6 α7:Type}{p0 p1 p2 p3 p4 p5 p6:α0→α1→α2→α3→α4→α5→α6→α7→Prop}{G:Prop}(h:zZ p0 p1 p2 p3 p4 p5 p6)(k:∀(a0:α0) (a1:α1) (a2:α2) (a3:α3) (a4:α4) (a5:α5) (a6:α6) (a7:α7) (h0:p0 a0 a1 a2 a3 a4 a5 a6 a7) (h1:p1 a0 a1 a2 a3 a4 a5 a6 a7) (h2:p2 a0 a1 a2 a3 a4 a5 a6 a7) (h3:p3 a0 a1 a2 a3 a4 a5 a6 a7) (h4:p4 a0 a1 a2 a3 a4 a5 a6 a7) (h5:p5 a0 a1 a2 a3 a4 a5 a6 a7) (h6:p6 a0 a1 a2 a3 a4 a5 a6 a7),G):G:=zZ.rec (motive:=fun _=>G) k h
inductive mP(x:Str)(X:V):List (Str×Slot)→List (Str×Slot)→Prop
 |loc {o r}:mP x X ((x,.loc o)::r) ((x,.loc (some X))::r)
 |cel {o r}:mP x X ((x,.cel o)::r) ((x,.cel (some X))::r)
 |skip {p r r'}:mP x X r r'→mP x X (p::r) (p::r')
noncomputable def pV(k:Nat):List (Str×Slot)→List (Str×Slot):=k.rec (fun l=>l) fun _ ih l=>ih l.tail
noncomputable def An(k:Nat)(l:List (Str×Slot)):Option (Str×V):=(pV k l).rec none fun p _ _=>(p.2.rec (fun o=>o) (fun o=>o) (fun x=>some x) none:Option V).rec none fun v=>some (p.1,v)
noncomputable def qE(k:Nat)(l:List (Str×Slot)):Option Str:=(pV k l).rec none fun p _ _=>p.2.rec (fun _=>none) (fun _=>none) (fun _=>none) (some p.1)
noncomputable def DD(k:Nat)(l:List (Str×Slot)):Option Str:=(pV k l).rec none fun p _ _=>p.2.rec (fun _=>some p.1) (fun _=>some p.1) (fun _=>none) none
noncomputable def H0(v:V)(s:Slot):Slot:=s.rec (fun _=> .loc (some v)) (fun _=> .cel (some v)) (fun x=> .fre x) .glob
noncomputable def BZ(k:Nat)(v:V):List (Str×Slot)→List (Str×Slot):=k.rec (fun l=>l.rec [] fun p r _=>(p.1,H0 v p.2)::r) fun _ ih l=>l.rec [] fun p r _=>p::ih r
theorem oU{p:Str×Slot}:∀{k:Nat} {l:List (Str×Slot)},p∈pV k l→p∈l
 |0,_,h=>h
 |_+1,_,h=>List.mem_of_mem_tail (oU h)
theorem Bh{k:Nat}{x:Str}{X:V}{l:List (Str×Slot)}(h:An k l=some (x,X)):(x,Slot.loc (some X))∈l∨(x,Slot.cel (some X))∈l∨(x,Slot.fre X)∈l:=by
 have m:∀p,p∈pV k l→p∈l:=fun p=>oU
 unfold An at h
 revert h m
 generalize pV k l=d
 intro h m
 rcases d with _|⟨⟨y,s⟩,r⟩
 ·cases h
 ·have hm:=m _ (List.mem_cons_self ..)
  rcases s with(_|v)|(_|v)|v|_<;>cases h
  ·exact .inl hm
  ·exact .inr (.inl hm)
  ·exact .inr (.inr hm)
theorem xG{k:Nat}{x:Str}{l:List (Str×Slot)}(h:qE k l=some x):(x,Slot.glob)∈l:=by
 have m:∀p,p∈pV k l→p∈l:=fun p=>oU
 unfold qE at h
 revert h m
 generalize pV k l=d
 intro h m
 rcases d with _|⟨⟨y,s⟩,r⟩
 ·cases h
 ·rcases s with o|o|v|_<;>cases h
  exact m _ (List.mem_cons_self ..)
theorem wW:∀k,DD k []=none
 |0=>rfl
 |k+1=>wW k
theorem aR{x:Str}{v:V}(k:Nat):∀{l:List (Str×Slot)},DD k l=some x→mP x v l (BZ k v l):=by
 induction k with
 |zero=>
  intro l h
  rcases l with _|⟨⟨y,s⟩,r⟩
  ·cases h
  ·rcases s with o|o|o|_<;>cases h
   ·exact .loc
   ·exact .cel
 |succ k ih=>
  intro l h
  cases l with
  |nil=>exact absurd ((wW k).symm.trans h) nofun
  |cons p r=>exact .skip (ih h)
theorem mP.map{x:Str}{X:V}{l l' :List (Str×Slot)}(h:mP x X l l'):l'.map (·.1)=l.map (·.1):=by
 induction h with
 |loc=>rfl
 |cel=>rfl
 |skip _ ih=>simp[ih]
theorem mP.cels{x:Str}{X:V}{l l' :List (Str×Slot)}(env:Env)(h:mP x X l l'):cels env l' =cels env l:=by
 induction h with
 |loc=>exact k6 rfl rfl
 |cel=>exact k6 rfl rfl
 |skip _ ih=>exact k6 rfl ih
theorem mP.ways{x:Str}{X:V}{l l' :List (Str×Slot)}(h:mP x X l l')(hn:(l.map (·.1)).Nodup):
  (∃o,(x,Slot.loc o)∈l∧∀p∈l',p=(x,Slot.loc (some X))∨(p∈l∧p.1≠x))∨(∃o,(x,Slot.cel o)∈l∧∀p∈l',p=(x,Slot.cel (some X))∨(p∈l∧p.1≠x)):=by
 induction h with
 | @loc o r=>
  refine .inl ⟨o,List.mem_cons_self ..,fun p hp=>?_⟩
  rcases List.mem_cons.mp hp with rfl|hp
  ·exact .inl rfl
  ·refine .inr ⟨List.mem_cons_of_mem _ hp,fun e=>?_⟩
   simp only[List.map_cons,List.nodup_cons] at hn
   exact hn.1 (e▸List.mem_map_of_mem hp)
 | @cel o r=>
  refine .inr ⟨o,List.mem_cons_self ..,fun p hp=>?_⟩
  rcases List.mem_cons.mp hp with rfl|hp
  ·exact .inl rfl
  ·refine .inr ⟨List.mem_cons_of_mem _ hp,fun e=>?_⟩
   simp only[List.map_cons,List.nodup_cons] at hn
   exact hn.1 (e▸List.mem_map_of_mem hp)
 | @skip q r r' h ih=>
  simp only[List.map_cons,List.nodup_cons] at hn
  rcases ih hn.2 with⟨o,h1,h2⟩|⟨o,h1,h2⟩
  ·refine .inl ⟨o,List.mem_cons_of_mem _ h1,fun p hp=>?_⟩
   rcases List.mem_cons.mp hp with rfl|hp
   ·exact .inr ⟨List.mem_cons_self ..,fun e=>hn.1 (e▸List.mem_map_of_mem h1)⟩
   ·exact(h2 p hp).imp id fun q=>⟨List.mem_cons_of_mem _ q.1,q.2⟩
  ·refine .inr ⟨o,List.mem_cons_of_mem _ h1,fun p hp=>?_⟩
   rcases List.mem_cons.mp hp with rfl|hp
   ·exact .inr ⟨List.mem_cons_self ..,fun e=>hn.1 (e▸List.mem_map_of_mem h1)⟩
   ·exact(h2 p hp).imp id fun q=>⟨List.mem_cons_of_mem _ q.1,q.2⟩
theorem DS{env:Env}{x y:Str}{o o' :Option V}{a b:Addr}(ex:env.cells.lookup x=some a)(ey:env.cells.lookup y=some b)(hne:y≠x){l:List (Str×Slot)}:(cels env l).Nodup→(x,Slot.cel o)∈l→(y,Slot.cel o')∈l→b≠a:=by
 induction l with
 |nil=>exact fun _ h=>nomatch h
 |cons p r ih=>
  intro hn hx hy
  rcases List.mem_cons.mp hx with h1|h1<;>rcases List.mem_cons.mp hy with h2|h2
  ·rw[←h1] at h2;cases h2;exact absurd rfl hne
  ·subst h1
   rw[fL (p:=(x,.cel o)) ex] at hn
   exact fun e=>(List.nodup_cons.mp hn).1 (e▸eE ey h2)
  ·subst h2
   rw[fL (p:=(y,.cel o')) ey] at hn
   exact fun e=>(List.nodup_cons.mp hn).1 (e▸eE ex h1)
  ·exact ih (hn.sublist ((List.sublist_cons_self p r).filterMap _)) h1 h2
theorem bF.split{c:Cx}{σ:St}(h:(bF c σ).Nodup):c.env.locals∉cels c.env σ.env∧c.env.locals∉σ.own.map (·.1)∧(cels c.env σ.env).Nodup∧(σ.own.map (·.1)).Nodup∧∀a∈cels c.env σ.env,a∉σ.own.map (·.1):=by
 simp only[bF,List.nodup_cons,List.mem_append,not_or,List.nodup_append] at h
 refine m7 h fun z0 h3 h4 h5=>?_
 clear h
 refine aG z0 fun h1 h2=>?_
 clear z0
 exact⟨h1,h2,h3,h4,fun a ha hb=>h5 a ha a hb rfl⟩
section
variable {c:Cx}{σ:St}{B:Fz}{s:Shared}
theorem Conc.getE{k:Nat}{x:Str}{X:V}{p:Pos}{Φ:Value→Shared→Prop}{Ψ:Value→Shared→Prop}(hc:Conc c σ B s)(h:An k σ.env=some (x,X))(hΦ:∀v,c5 c.g B X v→Φ v s):
  wpAny (model c.g.prog c.g.w) c.A (eval (.Name x p) c.env) Φ Ψ s:=by
 refine aH hc.vars fun m hn hv=>?_
 rcases Bh h with h1|h1|h1
 ·exact aG (hv _ h1) fun k r=>aH (r X rfl) fun v e r=>wpAny_Name (wpAny_loadName_local hc.base.ok.kind k hn e (hΦ v r)) (hc.names.2 _ h1)
 ·refine aG (hv _ h1) fun k z0=>cJ.e z0 fun a vo e ic r=>?_
  clear z0
  refine aH (r X rfl) fun v ev rr=>?_
  subst ev
  exact wpAny_Name (wpAny_loadName_cell hc.base.ok.kind k e ic (hΦ v rr)) (hc.names.2 _ h1)
 ·refine aG (hv _ h1) fun k z0=>gY.e z0 fun a o v e hp hd r=>?_
  clear z0
  have ic:s.heap.IsCell a (some v):=by
   rcases hp with hp|hp
   ·exact aH (hc.base.pins _ hp) fun sl q _=>⟨_,q,hd⟩
   ·exact⟨_,hc.base.frz _ _ hp,hd⟩
  rcases k with k|⟨k,kd⟩
  ·exact wpAny_Name (wpAny_loadName_cell hc.base.ok.kind k e ic (hΦ v r)) (hc.names.2 _ h1)
  ·exact wpAny_Name (wpAny_loadName_free hc.base.ok.kind k e ic (hΦ v r) kd) (hc.names.2 _ h1)
noncomputable def Gl(g:Gx)(x:Str)(X:V):Prop:=(∃v,g.mg x=some v∧c5 g g.T.get? X v)∨(g.mg x=none∧∃v,g.mb x=some v∧X= .val v)
theorem Conc.topKeeps(hc:Conc c σ B s):∀a o,c.g.T.get? a=some o→s.heap.get? a=some o:=fun a o e=>hc.base.frz a o (hc.base.TB a o e)
theorem Conc.globE{A' :Around}{i:Nat}{x:Str}{X:V}{p:Pos}{Φ:Value→Shared→Prop}{Ψ:Value→Shared→Prop}(hc:Conc c σ B s)(h:qE i σ.env=some x)(hg:Gl c.g x X)(hΦ:∀v,c5 c.g B X v→Φ v s):
  wpAny (model c.g.prog c.g.w) A' (eval (.Name x p) c.env) Φ Ψ s:=by
 refine aH hc.vars fun m hn hv=>?_
 have k:=hv _ (xG h)
 refine Calls.Name_function_global hc.base.ok.kind k ?_ (hc.names.2 _ (xG h))
 rcases hg with⟨v,e,r⟩|⟨e,v,e2,rfl⟩
 ·exact Calls.loadGlobal_global (by rw[hc.base.ok.globals];exact c.g.hg.keeps hc.topKeeps) e (hΦ v (r.mono hc.base.TB))
 ·exact Calls.loadGlobal_builtin (by rw[hc.base.ok.globals];exact c.g.hg.keeps hc.topKeeps) e (by rw[hc.base.ok.builtins];exact c.g.hb.keeps hc.topKeeps) e2 (hΦ v .val)
theorem Conc.putE{x:Str}{X:V}{v:Value}{env' :List (Str×Slot)}{Φ:Unit→Shared→Prop}{Ψ:Value→Shared→Prop}(hc:Conc c σ B s)(h:mP x X σ.env env')(hr:c5 c.g B X v)
  (hΦ:∀s',Conc c ⟨env',σ.own⟩ B s'→Φ () s'):wpAny (model c.g.prog c.g.w) c.A (storeName c.env x v) Φ Ψ s:=by
 refine aH hc.vars fun m hn hv=>j4 (bF.split hc.base.nod) fun n1 n2 n3 n4 n5=>?_
 have hM:bF c ⟨env',σ.own⟩=bF c σ:=by simp[bF,h.cels]
 have hnm:(env'.map (·.1)).Nodup∧∀p∈env',(p.1==("__debug__" :Str))=false:=by
  refine⟨by rw[h.map];exact hc.names.1,fun p hp=>?_⟩
  have:p.1∈σ.env.map (·.1):=by rw[←h.map];exact List.mem_map_of_mem hp
  refine aH (List.mem_map.mp this) fun q hq e=>?_
  rw[←e];exact hc.names.2 q hq
 rcases h.ways hc.names.1 with⟨o,h1,h2⟩|⟨o,h1,h2⟩
 ·refine wpAny_storeName_local (hv _ h1).1 hn (fun h' hn' hs=>hΦ _ ?_) (by rw[hc.base.ok.kind];rfl)
  have hk:∀a o,s.heap.get? a=some o→a≠c.env.locals→h'.get? a=some o:=fun a o e q=>(hs.2 a q).trans e
  refine⟨by rw[hM];exact hc.base.step (fun a o e ha=>hk a o e fun q=>ha (q▸bF.local_mem c σ)) (Nat.le_of_eq hs.1.symm),hnm,⟨_,hn',fun p hp=>?_⟩,fun p hp=>(hc.own p hp).at fun o e=>hk _ o e fun q=>n2 (q▸List.mem_map_of_mem hp)⟩
  rcases h2 p hp with rfl|⟨hp,hne⟩
  ·exact⟨(hv _ h1).1,fun Y e=>by cases e;exact⟨v,by simp,hr⟩⟩
  ·have w:=(hv p hp).step (h' :=h') (Fz.Le.refl B) fun a vo ⟨o',e'⟩ el ic=>by
    refine aH ic fun oc e1 e2=>?_
    clear ic
    exact⟨oc,hk a oc e1 fun q=>n1 (q▸eE el (by rw[←e'];exact hp)),e2⟩
   cases hsl:p.2 with
   |loc o' =>
    rw[hsl] at w
    refine⟨w.1,fun Y e=>?_⟩
    refine aH (w.2 Y e) fun u e1 e2=>?_
    exact⟨u,by simp only[hne,if_false];exact e1,e2⟩
   |cel o' =>rw[hsl] at w;exact w
   |fre Y=>rw[hsl] at w;exact w
   |glob=>rw[hsl] at w;exact w
 ·refine aG (hv _ h1) fun k z0=>cJ.e z0 fun a vo el ic _=>?_
  clear z0
  refine wpAny_storeName_cell hc.base.ok.kind k el ic fun h' ic' hs=>hΦ _ ?_
  have hac:a∈cels c.env σ.env:=eE el h1
  have hk:∀b o,s.heap.get? b=some o→b≠a→h'.get? b=some o:=fun b o e q=>(hs.2 b q).trans e
  refine⟨by rw[hM];exact hc.base.step (fun b o e hb=>hk b o e fun q=>hb (q▸bF.cel_mem hac)) (Nat.le_of_eq hs.1.symm),hnm,⟨m,hn.sameBut hs fun q=>n1 (q▸hac),fun p hp=>?_⟩,
   fun p hp=>(hc.own p hp).at fun o e=>hk _ o e fun q=>n5 a hac (q▸List.mem_map_of_mem hp)⟩
  rcases h2 p hp with rfl|⟨hp,hne⟩
  ·exact⟨k,a,some v,el,ic',fun Y e=>by cases e;exact⟨v,rfl,hr⟩⟩
  ·refine(hv p hp).step (Fz.Le.refl B) fun b vo' ⟨o',e'⟩ el' ic=>aH ic fun oc e1 e2=>?_
   clear ic
   exact⟨oc,hk b oc e1 (DS el el' hne n3 h1 (by rw[←e'];exact hp)),e2⟩
end
noncomputable def aP(c:Cx)(σ:St)(B:Fz)(a:Addr):Prop:=c.s0.heap.objs.size≤a∧a∉bF c σ∧B a=none∧∀p∈c.pins,p.1≠a
noncomputable def E0(c:Cx)(σ:St)(B:Fz)(ea:Addr)(cls:Value)(h:Heap):Prop:=
 aP c σ B ea∧cW (fun oe _=>h.get? ea=some oe) (fun oe _=>oe.cls=cls) (fun oe vs=>oe.data= .fields vs)
  (fun _ vs=>vs[1]? =some .none∨y8 (fun T _ _=>vs[1]? =some (.ref T)) (fun T _ _=>T≠ea) (fun T _ _=>aP c σ B T) (fun T oT _=>h.get? T=some oT) (fun _ oT ts=>oT.data= .fields ts)
   (fun _ _ ts=>ts[3]? =some .none∨∃L,c.fenv.frame=some L∧ts[3]? =some (rawInt L)))
noncomputable def zY(c:Cx)(X:Value→St→Prop)(e:Value)(s:Shared):Prop:=jO (fun σ B ea cls=>X cls σ) (fun σ B ea cls=>e= .ref ea) (fun σ B ea cls=>Conc c σ B s) (fun σ B ea cls=>E0 c σ B ea cls s.heap)
noncomputable def vT{α β:Type}(c:Cx)(R:Fz→β→α→Prop)(B:Fz)(Q:β→St→Prop)(Φ:α→Shared→Prop):Prop:=∀v x σ' B' s',Q x σ'→R B' x v→B.Le B'→Conc c σ' B' s'→Φ v s'
noncomputable def jC(c:Cx)(X:Value→St→Prop)(Ψ:Value→Shared→Prop):Prop:=∀e s',zY c X e s'→Ψ e s'
noncomputable def WT{α β:Type}(c:Cx)(R:Fz→β→α→Prop)(t:Sem α)(σ:St)(X:Value→St→Prop)(Q:β→St→Prop):Prop:=
 ∀B s (Φ:α→Shared→Prop) (Ψ:Value→Shared→Prop),Conc c σ B s→
  (vT c R B Q Φ)→
  (jC c X Ψ)→wpAny (model c.g.prog c.g.w) c.A t Φ Ψ s
noncomputable def WF{α β γ δ:Type}(c:Cx)(R:Fz→β→α→Prop)(R' :Fz→δ→γ→Prop)(x:β)(k:α→Sem γ)(σ:St)(X:Value→St→Prop)(Q:δ→St→Prop):Prop:=
 ∀B s v (Φ:γ→Shared→Prop) (Ψ:Value→Shared→Prop),R B x v→Conc c σ B s→
  (vT c R' B Q Φ)→
  (jC c X Ψ)→wpAny (model c.g.prog c.g.w) c.A (k v) Φ Ψ s
inductive Fl where
 |next|brk|cont
 |ret (x:V)
inductive CW(g:Gx)(B:Fz):Fl→Flow→Prop
 |next:CW g B .next .next
 |brk:CW g B .brk .brk
 |cont:CW g B .cont .cont
 |ret {x v}:c5 g B x v→CW g B (.ret x) (.ret v)
noncomputable def Hg(_:Fz)(b:Bool)(b' :Bool):Prop:=b' =b
noncomputable def Hf(_:Fz)(_:Unit)(_:Unit):Prop:=True
noncomputable def Hh(g:Gx)(B:Fz)(x:V×V)(v:Value×Value):Prop:=c5 g B x.1 v.1∧c5 g B x.2 v.2
noncomputable abbrev WV(c:Cx)(t:Sem Value)(σ:St)(X:Value→St→Prop)(Q:V→St→Prop):Prop:=WT c (c5 c.g) t σ X Q
noncomputable abbrev WL(c:Cx)(t:Sem (List Value))(σ:St)(X:Value→St→Prop)(Q:List V→St→Prop):Prop:=WT c (Reps c.g) t σ X Q
noncomputable abbrev WS(c:Cx)(t:Sem Flow)(σ:St)(X:Value→St→Prop)(Q:Fl→St→Prop):Prop:=WT c (CW c.g) t σ X Q
noncomputable abbrev WB(c:Cx)(t:Sem Bool)(σ:St)(X:Value→St→Prop)(Q:Bool→St→Prop):Prop:=WT c Hg t σ X Q
noncomputable abbrev WE(c:Cx)(e:Expr)(σ:St)(X:Value→St→Prop)(Q:V→St→Prop):Prop:=WV c (eval e c.env) σ X Q
noncomputable abbrev WC(c:Cx)(e:Expr)(σ:St)(X:Value→St→Prop)(Q:Bool→St→Prop):Prop:=WB c (isTrue e c.env (eval e c.env)) σ X Q
noncomputable abbrev WX(c:Cx)(l:List Stmt)(σ:St)(X:Value→St→Prop)(Q:Fl→St→Prop):Prop:=WS c (execs l c.env) σ X Q
noncomputable abbrev W1(c:Cx)(st:Stmt)(σ:St)(X:Value→St→Prop)(Q:Fl→St→Prop):Prop:=WS c (exec st c.env) σ X Q
noncomputable abbrev HD(c:Cx)(k:Value→Sem Value)(x:V)(σ:St)(X:Value→St→Prop)(Q:V→St→Prop):Prop:=WF c (c5 c.g) (c5 c.g) x k σ X Q
noncomputable abbrev iX(c:Cx)(k:Value→Value→Sem Value)(x y:V)(σ:St)(X:Value→St→Prop)(Q:V→St→Prop):Prop:=WF c (Hh c.g) (c5 c.g) (x,y) (fun v=>k v.1 v.2) σ X Q
noncomputable def HI(c:Cx)(X:Value→St→Prop)(Q:V→St→Prop)(k:Value→Value→Sem Value)(a b:V)(σ:St):Prop:=iX c k a b σ X Q
noncomputable def KO(c:Cx)(X:Value→St→Prop)(Q:V→St→Prop)(k:Value→Value→Sem Value)(r:Expr)(a:V)(σ:St):Prop:=WE c r σ X (HI c X Q k a)
noncomputable def KU(c:Cx)(X:Value→St→Prop)(Q:V→St→Prop)(k:Value→Sem Value)(a:V)(σ:St):Prop:=HD c k a σ X Q
noncomputable def Fu(c:Cx)(X:Value→St→Prop)(Q:V→St→Prop)(b o:Expr)(t:Bool)(σ:St):Prop:=if t=true then WE c b σ X Q else WE c o σ X Q
noncomputable def GW(c:Cx)(X:Value→St→Prop)(Q:Fl→St→Prop)(b o:List Stmt)(t:Bool)(σ:St):Prop:=if t=true then WX c b σ X Q else WX c o σ X Q
noncomputable def KB(Q:Bool→St→Prop)(v:V)(σ:St):Prop:=∃b,v= .bool b∧Q b σ
noncomputable def Hm(Q:Bool→St→Prop)(b:Bool)(σ:St):Prop:=Q (!b) σ
noncomputable def Gr(Q:Fl→St→Prop)(v:V)(σ:St):Prop:=Q (.ret v) σ
noncomputable def Hn(Q:Fl→St→Prop)(v:V)(σ:St):Prop:=v= .none∧Q .next σ
noncomputable def I4(Q:Fl→St→Prop)(σ:St):Prop:=Q .next σ
noncomputable def Hp(c:Cx)(X:Value→St→Prop)(F:St→Prop)(Q:V→St→Prop)(op:CmpOp)(r:Expr)(b:V)(t:Bool)(σ:St):Prop:=if t=true then WE c r σ X (HI c X Q (compareOp op) b) else F σ
noncomputable def Hq(c:Cx)(X:Value→St→Prop)(F:St→Prop)(Q:V→St→Prop)(op₁ op₂:CmpOp)(r:Expr)(a b:V)(σ:St):Prop:=iX c (compareOp op₁) a b σ X (KB (Hp c X F Q op₂ r b))
noncomputable def HM(c:Cx)(X:Value→St→Prop)(F:St→Prop)(Q:V→St→Prop)(op₁ op₂:CmpOp)(r₁ r₂:Expr)(a:V)(σ:St):Prop:=WE c r₁ σ X (Hq c X F Q op₁ op₂ r₂ a)
theorem kb{Q:Bool→St→Prop}{b:Bool}{σ:St}(h:Q b σ):KB Q (.bool b) σ:=⟨b,rfl,h⟩
theorem hH{c:Cx}{X:Value→St→Prop}{Q:Fl→St→Prop}{b o:List Stmt}{t:Bool}{σ:St}(ht:t=true)(h:WX c b σ X Q):GW c X Q b o t σ:=by subst ht;exact h
theorem gK{c:Cx}{X:Value→St→Prop}{Q:Fl→St→Prop}{b o:List Stmt}{t:Bool}{σ:St}(ht:t=false)(h:WX c o σ X Q):GW c X Q b o t σ:=by subst ht;exact h
theorem oM{c:Cx}{X:Value→St→Prop}{Q:V→St→Prop}{b o:Expr}{t:Bool}{σ:St}(ht:t=true)(h:WE c b σ X Q):Fu c X Q b o t σ:=by subst ht;exact h
theorem mN{c:Cx}{X:Value→St→Prop}{Q:V→St→Prop}{b o:Expr}{t:Bool}{σ:St}(ht:t=false)(h:WE c o σ X Q):Fu c X Q b o t σ:=by subst ht;exact h
section
variable {α β γ δ:Type}{c:Cx}{σ:St}{X:Value→St→Prop}
theorem WT.mono{R:Fz→β→α→Prop}{t:Sem α}{Q Q' :β→St→Prop}(h:WT c R t σ X Q)(hq:∀x σ',Q x σ'→Q' x σ'):WT c R t σ X Q' :=
 fun B s Φ Ψ hc hΦ hΨ=>h B s Φ Ψ hc (fun v x σ' B' s' q=>hΦ v x σ' B' s' (hq x σ' q)) hΨ
end
section
variable {c:Cx}{σ:St}{X:Value→St→Prop}{Q:V→St→Prop}
theorem aC{i k p}(h:Q (.int i) σ):WE c (.Constant (.int i) k p) σ X Q:=
 fun B s Φ Ψ hc hΦ hΨ=>wpAny_Constant_int (hΦ _ _ _ B _ h .int (Fz.Le.refl B) (hc.toks _))
theorem aE{x k p}(h:Q (.str x) σ):WE c (.Constant (.str x) k p) σ X Q:=
 fun B s Φ Ψ hc hΦ hΨ=>wpAny_Constant_str (hΦ _ _ _ B _ h .str (Fz.Le.refl B) (hc.toks _))
theorem Fg{b k p}(h:Q (.bool b) σ):WE c (.Constant (.bool b) k p) σ X Q:=
 fun B s Φ Ψ hc hΦ hΨ=>wpAny_Constant_bool (hΦ _ _ _ B _ h .bool (Fz.Le.refl B) hc)
theorem cE{k p}(h:Q .none σ):WE c (.Constant .none k p) σ X Q:=
 fun B s Φ Ψ hc hΦ hΨ=>wpAny_Constant_none (hΦ _ _ _ B _ h .none (Fz.Le.refl B) hc)
theorem a9{x p v}(k:Nat)(hx:An k σ.env=some (x,v))(h:Q v σ):WE c (.Name x p) σ X Q:=
 fun B s Φ Ψ hc hΦ hΨ=>hc.getE hx fun u r=>hΦ u v σ B s h r (Fz.Le.refl B) hc
theorem bG{x p v}(k:Nat)(hx:qE k σ.env=some x)(hg:Gl c.g x v)(h:Q v σ):WE c (.Name x p) σ X Q:=
 fun B s Φ Ψ hc hΦ hΨ=>hc.globE hx hg fun u r=>hΦ u v σ B s h r (Fz.Le.refl B) hc
theorem W2.go{t₁ t₂:Sem Value}{k:Value→Value→Sem Value}{B:Fz}{s:Shared}{Φ Ψ:Value→Shared→Prop}
  (h:WV c t₁ σ X fun a σ₁=>WV c t₂ σ₁ X fun b σ₂=>iX c k a b σ₂ X Q) (hc:Conc c σ B s)
  (hΦ:vT c (c5 c.g) B Q Φ) (hΨ:jC c X Ψ):
  wpAny (model c.g.prog c.g.w) c.A t₁ (fun a s₁=>wpAny (model c.g.prog c.g.w) c.A t₂ (fun b s₂=>wpAny (model c.g.prog c.g.w) c.A (k a b) Φ Ψ s₂) Ψ s₁) Ψ s:=
 h B s _ _ hc (fun a x σ₁ B₁ s₁ hq hr hle hc₁=>hq B₁ s₁ _ _ hc₁ (fun b y σ₂ B₂ s₂ hq₂ hr₂ hle₂ hc₂=>
  hq₂ B₂ s₂ (a,b) _ _ ⟨hr.mono hle₂,hr₂⟩ hc₂ (fun v z σ₃ B₃ s₃ hq₃ hr₃ hle₃ hc₃=>hΦ v z σ₃ B₃ s₃ hq₃ hr₃ ((hle.trans hle₂).trans hle₃) hc₃) hΨ) hΨ) hΨ
theorem aD{l op r p}(h:WE c l σ X (KO c X Q (binaryOp op) r)):WE c (.BinOp l op r p) σ X Q:=
 fun B s Φ Ψ hc hΦ hΨ=>wpAny_BinOp (W2.go h hc hΦ hΨ)
theorem nQ{l op r p}(h:WE c l σ X (KO c X Q (compareOp op) r))(hm:autoParam (behindInMarks op r=false) Dt):WE c (.Compare l [op] [r] p) σ X Q:=
 fun B s Φ Ψ hc hΦ hΨ=>wpAny_Compare1 (W2.go h hc hΦ hΨ) hm
theorem aV{l r p}(h:WE c l σ X (KO c X Q (subscriptTail l r) r)):WE c (.Subscript l r p) σ X Q:=
 fun B s Φ Ψ hc hΦ hΨ=>Subscript_ (W2.go h hc hΦ hΨ)
theorem kJ{op e p}(h:WE c e σ X (KU c X Q (unaryOp op))):WE c (.UnaryOp op e p) σ X Q:=
 fun B s Φ Ψ hc hΦ hΨ=>wpAny_UnaryOp (h B s _ _ hc (fun a x σ₁ B₁ s₁ hq hr hle hc₁=>hq B₁ s₁ a _ _ hr hc₁ (fun v z σ₃ B₃ s₃ hq₃ hr₃ hle₃ hc₃=>hΦ v z σ₃ B₃ s₃ hq₃ hr₃ (hle.trans hle₃) hc₃) hΨ) hΨ)
theorem iB{t b o p}(h:WC c t σ X (Fu c X Q b o)):WE c (.IfExp t b o p) σ X Q:=
 fun B s Φ Ψ hc hΦ hΨ=>wpAny_IfExp (h B s _ _ hc (fun a x σ₁ B₁ s₁ hq hr hle hc₁=>by
  have hr:a=x:=hr
  subst hr
  cases a with
  |true=>exact hq B₁ s₁ _ _ hc₁ (fun v z σ₃ B₃ s₃ hq₃ hr₃ hle₃ hc₃=>hΦ v z σ₃ B₃ s₃ hq₃ hr₃ (hle.trans hle₃) hc₃) hΨ
  |false=>exact hq B₁ s₁ _ _ hc₁ (fun v z σ₃ B₃ s₃ hq₃ hr₃ hle₃ hc₃=>hΦ v z σ₃ B₃ s₃ hq₃ hr₃ (hle.trans hle₃) hc₃) hΨ) hΨ)
theorem jQ{v:Value}{x:V}{b:Bool}{B:Fz}{s:Shared}{Φ:Bool→Shared→Prop}{Ψ:Value→Shared→Prop}(hr:c5 c.g B x v)(hx:x= .bool b)(h:Φ b s):
  wpAny (model c.g.prog c.g.w) c.A (truthy v) Φ Ψ s:=by
 subst hx
 obtain rfl:=hr.inv
 exact wpAny_truthy_bool h
theorem Aq{x y:Expr}{r:List Expr}{p:Pos}(h:WE c x σ X fun v σ₁=>∃b,v= .bool b∧(if b then WE c (.BoolOp .And (y::r) p) σ₁ X Q else Q (.bool false) σ₁)):WE c (.BoolOp .And (x::y::r) p) σ X Q:=by
 intro B s Φ Ψ hc hΦ hΨ
 show wpAny _ _ (do
  let v ←eval x c.env
  standAt p
  let t ←holding [v] (truthy v)
  match BoolOp.And,t with
  | .And,false| .Or,true=>pure v
  |_,_=>boolOp p .And (evalEach (y::r) c.env)) Φ Ψ s
 refine wpAny_bind (h B s _ _ hc (fun a z σ₁ B₁ s₁ hq hr hle hc₁=>wpAny_bind (wpAny_standAt (wpAny_bind (wpAny_holding ?_)))) hΨ)
 refine cI hq fun b z0=>?_
 clear hq
 refine aG z0 fun z2 hq=>?_
 clear z0
 subst z2
 refine jQ hr rfl ?_
 obtain rfl:=hr.inv
 cases b with
 |true=>exact hq B₁ s₁ _ _ hc₁ (fun v z σ₃ B₃ s₃ hq₃ hr₃ hle₃ hc₃=>hΦ v z σ₃ B₃ s₃ hq₃ hr₃ (hle.trans hle₃) hc₃) hΨ
 |false=>exact wpAny_pure (hΦ _ _ σ₁ B₁ s₁ hq .bool hle hc₁)
theorem CB{x:Expr}{p:Pos}(h:WE c x σ X Q):WE c (.BoolOp .And [x] p) σ X Q:=h
end
section
variable {c:Cx}{σ:St}{X:Value→St→Prop}{Q:Bool→St→Prop}
theorem dP{e:Expr}(h:WE c e σ X (KB Q))(he:autoParam (isTrue e c.env (eval e c.env)=(do let v ←eval e c.env;standAt e.pos;holding [v] (truthy v))) c8):WC c e σ X Q:=
 fun B s Φ Ψ hc hΦ hΨ=>wpAny_isTrue_value (h B s _ _ hc (fun a z σ₁ B₁ s₁ hq hr hle hc₁=>by
  refine cI hq fun b z0=>?_
  clear hq
  refine aG z0 fun z2 hq=>?_
  clear z0
  subst z2
  exact jQ hr rfl (hΦ b b σ₁ B₁ s₁ hq rfl hle hc₁)) hΨ) he
theorem aK{l op r p}(h:WE c l σ X (KO c X (KB Q) (compareOp op) r))(hm:autoParam (behindInMarks op r=false) Dt):WC c (.Compare l [op] [r] p) σ X Q:=
 fun B s Φ Ψ hc hΦ hΨ=>wpAny_isTrue_Compare1 (W2.go h hc (fun a z σ₁ B₁ s₁ hq hr hle hc₁=>by
  refine cI hq fun b z0=>?_
  clear hq
  refine aG z0 fun z2 hq=>?_
  clear z0
  subst z2
  exact jQ hr rfl (hΦ b b σ₁ B₁ s₁ hq rfl hle hc₁)) hΨ) hm
theorem fD{e p}(h:WC c e σ X (Hm Q)):WC c (.UnaryOp .Not e p) σ X Q:=
 fun B s Φ Ψ hc hΦ hΨ=>wpAny_isTrue_Not (h B s _ _ hc (fun a z σ₁ B₁ s₁ hq hr hle hc₁=>by
  have hr:a=z:=hr
  subst hr
  exact hΦ _ _ σ₁ B₁ s₁ hq rfl hle hc₁) hΨ)
noncomputable abbrev WA(c:Cx)(op:BoolOp)(l:List Expr)(σ:St)(X:Value→St→Prop)(Q:Bool→St→Prop):Prop:=WB c (allTrue op l c.env) σ X Q
noncomputable def Fv(c:Cx)(X:Value→St→Prop)(Q:Bool→St→Prop)(r:List Expr)(t:Bool)(σ:St):Prop:=if t=true then WA c .And r σ X Q else Q false σ
noncomputable def Hl(c:Cx)(X:Value→St→Prop)(Q:Bool→St→Prop)(r:List Expr)(t:Bool)(σ:St):Prop:=if t=true then Q true σ else WA c .Or r σ X Q
theorem rU{r:List Expr}{t:Bool}(ht:t=true)(h:WA c .And r σ X Q):Fv c X Q r t σ:=by subst ht;exact h
theorem zA{r:List Expr}{t:Bool}(ht:t=false)(h:Q false σ):Fv c X Q r t σ:=by subst ht;exact h
theorem Ai{r:List Expr}{t:Bool}(ht:t=true)(h:Q true σ):Hl c X Q r t σ:=by subst ht;exact h
theorem nF{r:List Expr}{t:Bool}(ht:t=false)(h:WA c .Or r σ X Q):Hl c X Q r t σ:=by subst ht;exact h
theorem cZ{op l p}(h:WA c op l σ X Q):WC c (.BoolOp op l p) σ X Q:=fun B s Φ Ψ hc hΦ hΨ=>wpAny_isTrue_BoolOp (h B s Φ Ψ hc hΦ hΨ)
theorem dQ(h:Q true σ):WA c .And [] σ X Q:=fun B s Φ Ψ hc hΦ hΨ=>wpAny_allTrue_And_nil (hΦ _ _ σ B s h rfl (Fz.Le.refl B) hc)
theorem eF(h:Q false σ):WA c .Or [] σ X Q:=fun B s Φ Ψ hc hΦ hΨ=>wpAny_allTrue_Or_nil (hΦ _ _ σ B s h rfl (Fz.Le.refl B) hc)
theorem eG{x r}(h:WC c x σ X (Fv c X Q r)):WA c .And (x::r) σ X Q:=
 fun B s Φ Ψ hc hΦ hΨ=>wpAny_allTrue_And_cons (h B s _ _ hc (fun a z σ₁ B₁ s₁ hq hr hle hc₁=>by
  have hr:a=z:=hr
  subst hr
  cases a with
  |true=>exact hq B₁ s₁ _ _ hc₁ (fun v z σ₃ B₃ s₃ hq₃ hr₃ hle₃ hc₃=>hΦ v z σ₃ B₃ s₃ hq₃ hr₃ (hle.trans hle₃) hc₃) hΨ
  |false=>exact hΦ _ _ σ₁ B₁ s₁ hq rfl hle hc₁) hΨ)
theorem fO{x r}(h:WC c x σ X (Hl c X Q r)):WA c .Or (x::r) σ X Q:=
 fun B s Φ Ψ hc hΦ hΨ=>wpAny_allTrue_Or_cons (h B s _ _ hc (fun a z σ₁ B₁ s₁ hq hr hle hc₁=>by
  have hr:a=z:=hr
  subst hr
  cases a with
  |true=>exact hΦ _ _ σ₁ B₁ s₁ hq rfl hle hc₁
  |false=>exact hq B₁ s₁ _ _ hc₁ (fun v z σ₃ B₃ s₃ hq₃ hr₃ hle₃ hc₃=>hΦ v z σ₃ B₃ s₃ hq₃ hr₃ (hle.trans hle₃) hc₃) hΨ) hΨ)
end
section
variable {c:Cx}{σ:St}{X:Value→St→Prop}
theorem vO{Q:Bool→St→Prop}{l op₁ op₂ r₁ r₂ p}
  (h:WE c l σ X (HM c X (Q false) (KB Q) op₁ op₂ r₁ r₂))
  (hm:autoParam (lastMarks [op₁,op₂] [r₁,r₂]=false) Dt):WC c (.Compare l [op₁,op₂] [r₁,r₂] p) σ X Q:=by
 intro B s Φ Ψ hc hΦ hΨ
 refine isTrue_chain (h B s _ _ hc (fun a x σ₁ B₁ s₁ hq hr hle hc₁=>test_link ?_) hΨ) hm
 refine hq B₁ s₁ _ _ hc₁ (fun b y σ₂ B₂ s₂ hq₂ hr₂ hle₂ hc₂=>?_) hΨ
 refine hq₂ B₂ s₂ (a,b) _ _ ⟨hr.mono hle₂,hr₂⟩ hc₂ (fun v z σ₃ B₃ s₃ hq₃ hr₃ hle₃ hc₃=>?_) hΨ
 refine cI hq₃ fun t z0=>?_
 clear hq₃
 refine aG z0 fun z2 hq₃=>?_
 clear z0
 subst z2
 refine jQ hr₃ rfl ?_
 cases t with
 |false=>exact hΦ _ _ σ₃ B₃ s₃ hq₃ rfl ((hle.trans hle₂).trans hle₃) hc₃
 |true=>
  refine test_last (hq₃ B₃ s₃ _ _ hc₃ (fun d z σ₄ B₄ s₄ hq₄ hr₄ hle₄ hc₄=>?_) hΨ)
  refine hq₄ B₄ s₄ (b,d) _ _ ⟨hr₂.mono (hle₃.trans hle₄),hr₄⟩ hc₄ (fun v z σ₅ B₅ s₅ hq₅ hr₅ hle₅ hc₅=>?_) hΨ
  refine cI hq₅ fun t z0=>?_
  clear hq₅
  refine aG z0 fun z2 hq₅=>?_
  clear z0
  subst z2
  exact jQ hr₅ rfl (hΦ _ _ σ₅ B₅ s₅ hq₅ rfl ((((hle.trans hle₂).trans hle₃).trans hle₄).trans hle₅) hc₅)
theorem DQ{Q:V→St→Prop}{l op₁ op₂ r₁ r₂ p}
  (h:WE c l σ X (HM c X (Q (.bool false)) Q op₁ op₂ r₁ r₂))
  (hm:autoParam (lastMarks [op₁,op₂] [r₁,r₂]=false) Dt):WE c (.Compare l [op₁,op₂] [r₁,r₂] p) σ X Q:=by
 intro B s Φ Ψ hc hΦ hΨ
 refine Compare_chain (h B s _ _ hc (fun a x σ₁ B₁ s₁ hq hr hle hc₁=>chain_link ?_) hΨ) hm
 refine hq B₁ s₁ _ _ hc₁ (fun b y σ₂ B₂ s₂ hq₂ hr₂ hle₂ hc₂=>?_) hΨ
 refine hq₂ B₂ s₂ (a,b) _ _ ⟨hr.mono hle₂,hr₂⟩ hc₂ (fun v z σ₃ B₃ s₃ hq₃ hr₃ hle₃ hc₃=>?_) hΨ
 refine cI hq₃ fun t z0=>?_
 clear hq₃
 refine aG z0 fun z2 hq₃=>?_
 clear z0
 subst z2
 refine jQ hr₃ rfl ?_
 obtain rfl:=hr₃.inv
 cases t with
 |false=>exact hΦ _ _ σ₃ B₃ s₃ hq₃ .bool ((hle.trans hle₂).trans hle₃) hc₃
 |true=>
  refine chain_last (hq₃ B₃ s₃ _ _ hc₃ (fun d z σ₄ B₄ s₄ hq₄ hr₄ hle₄ hc₄=>?_) hΨ)
  exact hq₄ B₄ s₄ (b,d) _ _ ⟨hr₂.mono (hle₃.trans hle₄),hr₄⟩ hc₄ (fun v z σ₅ B₅ s₅ hq₅ hr₅ hle₅ hc₅=>hΦ _ _ σ₅ B₅ s₅ hq₅ hr₅ ((((hle.trans hle₂).trans hle₃).trans hle₄).trans hle₅) hc₅) hΨ
end
section
variable {c:Cx}{σ:St}{X:Value→St→Prop}{Q:Fl→St→Prop}
theorem aF(h:Q .next σ):WX c [] σ X Q:=fun B s Φ Ψ hc hΦ hΨ=>wpAny_execs_nil (hΦ _ _ σ B s h .next (Fz.Le.refl B) hc)
noncomputable def XQ(c:Cx)(r:List Stmt)(X:Value→St→Prop)(Q:Fl→St→Prop):Fl→St→Prop
 | .next,σ=>WX c r σ X Q
 |f,σ=>Q f σ
noncomputable def LQ(I:St→Prop)(Q:Fl→St→Prop):Fl→St→Prop
 | .next,σ=>I σ
 | .cont,σ=>I σ
 | .brk,σ=>Q .next σ
 | .ret v,σ=>Q (.ret v) σ
noncomputable def FQ(Q:V→List (Addr×OV)→Prop):Fl→St→Prop
 | .ret v,σ=>Q v σ.own
 | .next,σ=>Q .none σ.own
 |_,_=>False
noncomputable abbrev FX(X:Value→List (Addr×OV)→Prop):Value→St→Prop:=fun cls σ=>X cls σ.own
theorem aU{st r}(h:W1 c st σ X (XQ c r X Q)):WX c (st::r) σ X Q:=
 fun B s Φ Ψ hc hΦ hΨ=>wpAny_execs_cons (h B s _ _ hc (fun a z σ₁ B₁ s₁ hq hr hle hc₁=>by
  cases hr with
  |next=>exact hq B₁ s₁ _ _ hc₁ (fun v z σ₃ B₃ s₃ hq₃ hr₃ hle₃ hc₃=>hΦ v z σ₃ B₃ s₃ hq₃ hr₃ (hle.trans hle₃) hc₃) hΨ
  |brk=>exact hΦ _ _ σ₁ B₁ s₁ hq .brk hle hc₁
  |cont=>exact hΦ _ _ σ₁ B₁ s₁ hq .cont hle hc₁
  |ret r=>exact hΦ _ _ σ₁ B₁ s₁ hq (.ret r) hle hc₁) hΨ)
noncomputable def Gv(x:Str)(Q:Fl→St→Prop)(v:V)(σ:St):Prop:=∃env',mP x v σ.env env'∧Q .next ⟨env',σ.own⟩
theorem d8{x:Str}{Q:Fl→St→Prop}{v:V}{env:List (Str×Slot)}{own:List (Addr×OV)}(k:Nat)(hp:DD k env=some x)(h:Q .next ⟨BZ k v env,own⟩):Gv x Q v ⟨env,own⟩:=⟨_,aR k hp,h⟩
theorem rE{x p' value p}(h:WE c value σ X (Gv x Q))
  (hs:autoParam (swapsWith value (some (.Name x p')) p.line c.env=pure false) c8):W1 c (.Assign [.Name x p'] value p) σ X Q:=
 fun B s Φ Ψ hc hΦ hΨ=>wpAny_Assign_Name (h B s _ _ hc (fun a z σ₁ B₁ s₁ hq hr hle hc₁=>by
  refine cI hq fun env' z0=>?_
  clear hq
  refine aG z0 fun hp hq=>?_
  clear z0
  exact hc₁.putE hp hr fun s' hc' =>hΦ _ _ _ B₁ s' hq .next hle hc') hΨ) hs
theorem EU{e p}(h:WE c e σ X (Hn Q))(hs:autoParam (swapsWith e none p.line c.env=pure false) c8):W1 c (.Expr e p) σ X Q:=by
 intro B s Φ Ψ hc hΦ hΨ
 refine wpAny_Expr (h B s _ _ hc (fun a z σ₁ B₁ s₁ hq hr hle hc₁=>?_) hΨ) (by simp[interactive,hc.base.ok.kind]) hs
 refine aG hq fun z0 z1=>?_
 clear hq
 revert z1
 intro hq
 subst z0
 obtain rfl:=hr.inv
 exact hΦ _ _ σ₁ B₁ s₁ hq .next hle hc₁
theorem wK{t b o p}(h:WC c t σ X (GW c X Q b o)):W1 c (.If t b o p) σ X Q:=
 fun B s Φ Ψ hc hΦ hΨ=>wpAny_If (h B s _ _ hc (fun a x σ₁ B₁ s₁ hq hr hle hc₁=>by
  have hr:a=x:=hr
  subst hr
  cases a with
  |true=>exact hq B₁ s₁ _ _ hc₁ (fun v z σ₃ B₃ s₃ hq₃ hr₃ hle₃ hc₃=>hΦ v z σ₃ B₃ s₃ hq₃ hr₃ (hle.trans hle₃) hc₃) hΨ
  |false=>exact hq B₁ s₁ _ _ hc₁ (fun v z σ₃ B₃ s₃ hq₃ hr₃ hle₃ hc₃=>hΦ v z σ₃ B₃ s₃ hq₃ hr₃ (hle.trans hle₃) hc₃) hΨ) hΨ)
theorem Ac{e p}(h:WE c e σ X (Gr Q)):W1 c (.Return (some e) p) σ X Q:=
 fun B s Φ Ψ hc hΦ hΨ=>wpAny_Return_some (h B s _ _ hc (fun a z σ₁ B₁ s₁ hq hr hle hc₁=>hΦ _ _ σ₁ B₁ s₁ hq (.ret hr) hle hc₁) hΨ)
theorem aM{x p' value p r}(h:WE c value σ X (Gv x (XQ c r X Q)))(hs:autoParam (swapsWith value (some (.Name x p')) p.line c.env=pure false) c8):WX c (.Assign [.Name x p'] value p::r) σ X Q:=aU (rE h hs)
theorem gZ{e p r}(h:WE c e σ X (Hn (XQ c r X Q)))(hs:autoParam (swapsWith e none p.line c.env=pure false) c8):WX c (.Expr e p::r) σ X Q:=aU (EU h hs)
theorem bU{t b o p r}(h:WC c t σ X (GW c X (XQ c r X Q) b o)):WX c (.If t b o p::r) σ X Q:=aU (wK h)
theorem aO{e p r}(h:WE c e σ X (Gr (XQ c r X Q))):WX c (.Return (some e) p::r) σ X Q:=aU (Ac h)
end
section
open PySem PySem.W PyProof.Rows PySem.SeqAt
section
variable {c:Cx}{σ:St}{X:Value→St→Prop}{Q:V→St→Prop}{a b:Int}{x y:Str}
theorem aJ(h:Q (.int (a+b)) σ):iX c (binaryOp .Add) (.int a) (.int b) σ X Q:=by
 rintro B s ⟨u,v⟩ Φ Ψ ⟨hu,hv⟩ hc hΦ hΨ
 obtain⟨_⟩:=hu.inv;obtain⟨_⟩:=hv.inv
 exact add_int (hΦ _ _ _ B _ h .int (Fz.Le.refl B) (hc.toks _))
theorem bN(h:Q (.int (a-b)) σ):iX c (binaryOp .Sub) (.int a) (.int b) σ X Q:=by
 rintro B s ⟨u,v⟩ Φ Ψ ⟨hu,hv⟩ hc hΦ hΨ
 obtain⟨_⟩:=hu.inv;obtain⟨_⟩:=hv.inv
 exact sub_int (hΦ _ _ _ B _ h .int (Fz.Le.refl B) (hc.toks _))
theorem eJ(h:Q (.int (a*b)) σ)(hm:IntMulOk a b):iX c (binaryOp .Mult) (.int a) (.int b) σ X Q:=by
 rintro B s ⟨u,v⟩ Φ Ψ ⟨hu,hv⟩ hc hΦ hΨ
 obtain⟨_⟩:=hu.inv;obtain⟨_⟩:=hv.inv
 exact mul_int (hΦ _ _ _ B _ h .int (Fz.Le.refl B) (hc.toks _)) hm
theorem cL(hb:b≠0)(hp:Builtin.divisionGoesByPylong a b=false)(h:Q (.int (a.fdiv b)) σ):iX c (binaryOp .FloorDiv) (.int a) (.int b) σ X Q:=by
 rintro B s ⟨u,v⟩ Φ Ψ ⟨hu,hv⟩ hc hΦ hΨ
 obtain⟨_⟩:=hu.inv;obtain⟨_⟩:=hv.inv
 exact floordiv_int hb (hΦ _ _ _ B _ h .int (Fz.Le.refl B) (hc.toks _)) (.inl hp)
theorem bW(hb:b≠0)(h:Q (.int (a.fmod b)) σ):iX c (binaryOp .Mod) (.int a) (.int b) σ X Q:=by
 rintro B s ⟨u,v⟩ Φ Ψ ⟨hu,hv⟩ hc hΦ hΨ
 obtain⟨_⟩:=hu.inv;obtain⟨_⟩:=hv.inv
 exact mod_int' hb (hΦ _ _ _ B _ h .int (Fz.Le.refl B) (hc.toks _))
theorem lN(hn:0≤b)(hsz:(Builtin.Int.intBits a:Int)*b≤2^27)(h:Q (.int (a^b.toNat)) σ):iX c (binaryOp .Pow) (.int a) (.int b) σ X Q:=by
 rintro B s ⟨u,v⟩ Φ Ψ ⟨hu,hv⟩ hc hΦ hΨ
 obtain⟨_⟩:=hu.inv;obtain⟨_⟩:=hv.inv
 exact pow_int hn hsz (hΦ _ _ _ B _ h .int (Fz.Le.refl B) (hc.toks _))
theorem bO(h:Q (.int (-a)) σ):HD c (unaryOp .USub) (.int a) σ X Q:=by
 intro B s u Φ Ψ hu hc hΦ hΨ
 obtain⟨_⟩:=hu.inv
 exact neg_int (hΦ _ _ _ B _ h .int (Fz.Le.refl B) (hc.toks _))
theorem q9(h:Q (.bool (decide (a<b))) σ):iX c (compareOp .Lt) (.int a) (.int b) σ X Q:=by
 rintro B s ⟨u,v⟩ Φ Ψ ⟨hu,hv⟩ hc hΦ hΨ
 obtain⟨_⟩:=hu.inv;obtain⟨_⟩:=hv.inv
 exact lt_int (hΦ _ _ _ B _ h .bool (Fz.Le.refl B) hc)
theorem yW(h:Q (.bool (decide (a≤b))) σ):iX c (compareOp .LtE) (.int a) (.int b) σ X Q:=by
 rintro B s ⟨u,v⟩ Φ Ψ ⟨hu,hv⟩ hc hΦ hΨ
 obtain⟨_⟩:=hu.inv;obtain⟨_⟩:=hv.inv
 exact le_int (hΦ _ _ _ B _ h .bool (Fz.Le.refl B) hc)
theorem qA(h:Q (.bool (decide (b<a))) σ):iX c (compareOp .Gt) (.int a) (.int b) σ X Q:=by
 rintro B s ⟨u,v⟩ Φ Ψ ⟨hu,hv⟩ hc hΦ hΨ
 obtain⟨_⟩:=hu.inv;obtain⟨_⟩:=hv.inv
 exact gt_int (hΦ _ _ _ B _ h .bool (Fz.Le.refl B) hc)
theorem F3(h:Q (.bool (decide (b≤a))) σ):iX c (compareOp .GtE) (.int a) (.int b) σ X Q:=by
 rintro B s ⟨u,v⟩ Φ Ψ ⟨hu,hv⟩ hc hΦ hΨ
 obtain⟨_⟩:=hu.inv;obtain⟨_⟩:=hv.inv
 exact ge_int (hΦ _ _ _ B _ h .bool (Fz.Le.refl B) hc)
theorem fA(h:Q (.bool (a==b)) σ):iX c (compareOp .Eq) (.int a) (.int b) σ X Q:=by
 rintro B s ⟨u,v⟩ Φ Ψ ⟨hu,hv⟩ hc hΦ hΨ
 obtain⟨_⟩:=hu.inv;obtain⟨_⟩:=hv.inv
 exact eq_int (hΦ _ _ _ B _ h .bool (Fz.Le.refl B) hc)
theorem l4(h:Q (.bool (a != b)) σ):iX c (compareOp .NotEq) (.int a) (.int b) σ X Q:=by
 rintro B s ⟨u,v⟩ Φ Ψ ⟨hu,hv⟩ hc hΦ hΨ
 obtain⟨_⟩:=hu.inv;obtain⟨_⟩:=hv.inv
 exact ne_int (hΦ _ _ _ B _ h .bool (Fz.Le.refl B) hc)
theorem bX(h:Q (.bool (x==y)) σ):iX c (compareOp .Eq) (.str x) (.str y) σ X Q:=by
 rintro B s ⟨u,v⟩ Φ Ψ ⟨hu,hv⟩ hc hΦ hΨ
 obtain⟨_⟩:=hu.inv;obtain⟨_⟩:=hv.inv
 exact eq_str (hΦ _ _ _ B _ h .bool (Fz.Le.refl B) hc)
theorem iP(h:Q (.bool (x != y)) σ):iX c (compareOp .NotEq) (.str x) (.str y) σ X Q:=by
 rintro B s ⟨u,v⟩ Φ Ψ ⟨hu,hv⟩ hc hΦ hΨ
 obtain⟨_⟩:=hu.inv;obtain⟨_⟩:=hv.inv
 exact ne_str (hΦ _ _ _ B _ h .bool (Fz.Le.refl B) hc)
theorem lP(h:Q (.str (x++y)) σ)(hz:x.length+y.length≤sizeLine):iX c (binaryOp .Add) (.str x) (.str y) σ X Q:=by
 rintro B s ⟨u,v⟩ Φ Ψ ⟨hu,hv⟩ hc hΦ hΨ
 obtain⟨_⟩:=hu.inv;obtain⟨_⟩:=hv.inv
 exact SBL.add (fun t k _=>hΦ _ _ _ B _ h .str (Fz.Le.refl B) (hc.toks _)) hz
theorem iH(h:Q (.str (Txt.mul x a)) σ)(hz:MulOk x a):iX c (binaryOp .Mult) (.str x) (.int a) σ X Q:=by
 rintro B s ⟨u,v⟩ Φ Ψ ⟨hu,hv⟩ hc hΦ hΨ
 obtain⟨_⟩:=hu.inv;obtain⟨_⟩:=hv.inv
 exact SB.mul hz (fun t k=>hΦ _ _ _ B _ h .str (Fz.Le.refl B) (hc.toks _))
noncomputable def V.isNone:V→Bool
 | .none=>true
 | .val v=>v== .none
 |_=>false
theorem V.isNone_rep{g:Gx}{B:Fz}{x:V}{v:Value}(h:c5 g B x v):(v== .none)=x.isNone:=by
 cases h<;>rfl
theorem dM{x:V}(h:Q (.bool x.isNone) σ):iX c (compareOp .Is) x .none σ X Q:=by
 rintro B s ⟨u,v⟩ Φ Ψ ⟨hu,hv⟩ hc hΦ hΨ
 obtain rfl:=hv.inv
 exact is_none (hΦ _ _ _ B _ (by rw[←V.isNone_rep hu] at h;exact h) .bool (Fz.Le.refl B) hc)
theorem nB{x:V}(h:Q (.bool (!x.isNone)) σ):iX c (compareOp .IsNot) x .none σ X Q:=by
 rintro B s ⟨u,v⟩ Φ Ψ ⟨hu,hv⟩ hc hΦ hΨ
 obtain rfl:=hv.inv
 exact isNot_none (hΦ _ _ _ B _ (by rw[←V.isNone_rep hu] at h;exact h) .bool (Fz.Le.refl B) hc)
end
mutual
inductive oB:V→PyData→Prop
 |none:oB .none .none
 |bool {b}:oB (.bool b) (.bool b)
 |int {i}:oB (.int i) (.int i)
 |str {x}:oB (.str x) (.str x)
 |lst {l d}:IsPys l d→oB (.lst l) (.list d)
 |tup {l d}:IsPys l d→oB (.tup l) (.tuple d)
inductive IsPys:List V→List PyData→Prop
 |nil:IsPys [] []
 |cons {x d l ds}:oB x d→IsPys l ds→IsPys (x::l) (d::ds)
end
theorem Reps.inv0{g:Gx}{B:Fz}{vs:List Value}(r:Reps g B [] vs):vs=[]:=by cases r;rfl
inductive EI(g:Gx)(B:Fz)(x:V)(l:List V):List Value→Prop
 |mk (v:Value) (vs:List Value) (a:c5 g B x v) (b:Reps g B l vs):EI g B x l (v::vs)
theorem Reps.inv1{g:Gx}{B:Fz}{x:V}{l:List V}{vs:List Value}(r:Reps g B (x::l) vs):EI g B x l vs:=by cases r with|cons a b=>exact⟨_,_,a,b⟩
theorem IsPys.reads{g:Gx}{B:Fz}{h:Heap}(hB:∀a o,B a=some o→h.get? a=some o){l:List V}{ds:List PyData}{vs:List Value}(p:IsPys l ds)(r:Reps g B l vs):∃as,ReadsAll h vs ds as:=by
 refine p.rec (motive_1:=fun x d _=>∀v,c5 g B x v→∃as,Reads h v d as) (motive_2:=fun l ds _=>∀vs,Reps g B l vs→∃as,ReadsAll h vs ds as) ?_ ?_ ?_ ?_ ?_ ?_ ?_ ?_ vs r
 ·intro v r;obtain rfl:=r.inv;exact⟨_,.none⟩
 ·intro _ v r;obtain rfl:=r.inv;exact⟨_,.bool _⟩
 ·intro _ v r;obtain⟨_⟩:=r.inv;exact⟨_,.int _ _⟩
 ·intro _ v r;obtain⟨_⟩:=r.inv;exact⟨_,.str _ _⟩
 ·intro _ _ _ ih v r;obtain⟨_,_,_,_,_,a,b,c,d⟩:=r.inv;exact(ih _ d).imp' _ fun _ r=> .list (hB _ _ a) b c r
 ·intro _ _ _ ih v r;obtain⟨_,_,_,_,a,b,c,d⟩:=r.inv;exact(ih _ d).imp' _ fun _ r=> .tuple (hB _ _ a) b c r
 ·intro vs r;obtain rfl:=r.inv0;exact⟨_,.nil⟩
 ·intro _ _ _ _ _ _ ih1 ih2 vs r;obtain⟨_,_,a,b⟩:=r.inv1;refine cI (ih1 _ a) fun as r=>?_;exact(ih2 _ b).imp' _ fun _ t=> .cons r t
theorem oB.reads{g:Gx}{B:Fz}{h:Heap}(hB:∀a o,B a=some o→h.get? a=some o){x:V}{d:PyData}{v:Value}(p:oB x d)(r:c5 g B x v):∃as,Reads h v d as:=by
 cases p with
 |none=>obtain rfl:=r.inv;exact⟨_,.none⟩
 |bool=>obtain rfl:=r.inv;exact⟨_,.bool _⟩
 |int=>obtain⟨_⟩:=r.inv;exact⟨_,.int _ _⟩
 |str=>obtain⟨_⟩:=r.inv;exact⟨_,.str _ _⟩
 |lst p=>obtain⟨_,_,_,_,_,a,b,c,d⟩:=r.inv;exact(p.reads hB d).imp' _ fun _ r=> .list (hB _ _ a) b c r
 |tup p=>obtain⟨_,_,_,_,a,b,c,d⟩:=r.inv;exact(p.reads hB d).imp' _ fun _ r=> .tuple (hB _ _ a) b c r
section
variable {c:Cx}{σ:St}{X:Value→St→Prop}{Q:V→St→Prop}{x y:V}{d e:PyData}
theorem Conc.units{B:Fz}{s:Shared}(hc:Conc c σ B s)(n:Nat)(hn:autoParam (n≤800) mV):c.A.units+n<cLine:=by
 have:=hc.base.ok.units
 have e:cLine=9900:=rfl
 exact eQ [_,_,_,_] [] (.Le .x (.n 800)) 100 (.Le (.a .w (.m 30 .z)) (.n 9000)) 100 (.Eq .y (.n 9900)) (.negSucc 98) (.Lt (.a .w .x) .y) 99 qq hn this e
theorem o_eq(hx:oB x d)(hy:oB y e)(sx:shaped d=true)(sy:shaped e=true)(hm:noMix d e=true)(h:Q (.bool (PySem.Spec.same d e)) σ):iX c (compareOp .Eq) x y σ X Q:=by
 rintro B s ⟨u,v⟩ Φ Ψ ⟨hu,hv⟩ hc hΦ hΨ
 exact cI (hx.reads hc.base.frz hu) fun as r=>cI (hy.reads hc.base.frz hv) fun bs t=>eq_dataH_same r t sx sy (hc.units 64) hm (hΦ _ _ _ B _ h .bool (Fz.Le.refl B) hc)
theorem o_ne(hx:oB x d)(hy:oB y e)(sx:shaped d=true)(sy:shaped e=true)(hm:noMix d e=true)(h:Q (.bool (!PySem.Spec.same d e)) σ):iX c (compareOp .NotEq) x y σ X Q:=by
 rintro B s ⟨u,v⟩ Φ Ψ ⟨hu,hv⟩ hc hΦ hΨ
 exact cI (hx.reads hc.base.frz hu) fun as r=>cI (hy.reads hc.base.frz hv) fun bs t=>ne_dataH_same r t sx sy (hc.units 64) hm (hΦ _ _ _ B _ h .bool (Fz.Le.refl B) hc)
end
end
structure CV(A:Around)(outer:List Env)(lvl:Nat):Prop where
 handled:A.handled=none
 frames:A.frames=some outer
 depth:A.depth+4*lvl≤900
 units:A.units+30*lvl≤9000
structure yA(g:Gx)(outer:List Env)(own:List (Addr×OV))(B:Fz)(s:Shared):Prop where
 TB:∀a o,g.T.get? a=some o→B a=some o
 frz:∀a o,B a=some o→s.heap.get? a=some o
 owns:∀p∈own,f7 g B s.heap p.1 p.2
 nod:(own.map (·.1)).Nodup
 onB:∀p∈own,B p.1=none
 outer:∀e∈outer,e.scope.kind≠ .module∧E2x5 (fun L o=>e.frame=some L) (fun L o=>B L=none) (fun L o=>s.heap.get? L=some o) (fun L o=>(∀vs,o.data≠ .fields vs)) (fun L o=>L∉own.map (·.1))
structure mJ(g:Gx)(outer:List Env)(own own' :List (Addr×OV))(B:Fz)(s:Shared)(B' :Fz)(s' :Shared):Prop where
 rest:pJ (fun h tk=>s' ={s with heap:=h,toks:=tk})
 size:s.heap.objs.size≤s'.heap.objs.size
 stay:pB (outer.filterMap (·.frame)) (own.map (·.1)) s.heap s'.heap
 Bold:B.Le B'
 Bnew:∀a o,B' a=some o→a<s.heap.objs.size→B a=some o
 frz:∀a o,B' a=some o→s'.heap.get? a=some o
 owns:∀p∈own',f7 g B' s'.heap p.1 p.2
 nod:(own'.map (·.1)).Nodup
 onB:∀p∈own',B' p.1=none∧(p.1∈own.map (·.1)∨s.heap.objs.size≤p.1)
noncomputable def GA(own' :List (Addr×OV))(s:Shared)(B' :Fz)(s' :Shared)(ea:Addr)(cls:Value):Prop:=
 (s.heap.objs.size≤ea∧B' ea=none∧ea∉own'.map (·.1))∧lJ (fun oe vs T oT ts=>s'.heap.get? ea=some oe) (fun oe vs T oT ts=>oe.cls=cls) (fun oe vs T oT ts=>oe.data= .fields vs) (fun oe vs T oT ts=>vs[1]? =some (.ref T)) (fun oe vs T oT ts=>T≠ea) (fun oe vs T oT ts=>(s.heap.objs.size≤T∧B' T=none∧T∉own'.map (·.1))) (fun oe vs T oT ts=>s'.heap.get? T=some oT) (fun oe vs T oT ts=>oT.data= .fields ts) (fun oe vs T oT ts=>ts[3]? =some .none)
noncomputable abbrev XO:=Value→List (Addr×OV)→Prop
noncomputable abbrev cK:XO:=fun _ _=>False
noncomputable def aS(g:Gx)(lvl:Nat)(f:V)(xs:List V)(own:List (Addr×OV))(X:XO)(Q:V→List (Addr×OV)→Prop):Prop:=
 ∀A outer B s fv vs (R:Result→Shared→Prop),CV A outer lvl→yA g outer own B s→c5 g B f fv→Reps g B xs vs→
  (∀v x own' B' s',Q x own'→c5 g B' x v→mJ g outer own own' B s B' s'→R (.ok (.ret v)) s')→
  (∀ea cls own' B' s',X cls own'→mJ g outer own own' B s B' s'→GA own' s B' s' ea cls→R (.error (.ref ea)) s')→
  codeAny (model g.prog g.w) A (.call fv ⟨vs,[]⟩) R s
theorem aS.mono{g:Gx}{lvl:Nat}{f:V}{xs:List V}{own:List (Addr×OV)}{X:XO}{Q Q' :V→List (Addr×OV)→Prop}(h:aS g lvl f xs own X Q)(hq:∀x o,Q x o→Q' x o):aS g lvl f xs own X Q' :=
 fun A outer B s fv vs R r hc hf hr hR hX=>h A outer B s fv vs R r hc hf hr (fun v x own' B' s' q=>hR v x own' B' s' (hq x own' q)) hX
inductive cT:List (Addr×OV)→List (Addr×OV)→List (Addr×OV)→Prop
 |nil {o}:cT o [] o
 |take {p o l r}:cT o l r→cT (p::o) (p::l) r
 |keep {p o l r}:cT o l r→cT (p::o) l (p::r)
theorem cT.perm{o l r:List (Addr×OV)}(h:cT o l r):o.Perm (l++r):=by
 induction h with
 |nil=>exact .refl _
 |take _ ih=>exact ih.cons _
 |keep _ ih=>exact(ih.cons _).trans List.perm_middle.symm
section
variable {c:Cx}{σ:St}{B:Fz}{s:Shared}
theorem Conc.ownLt(hc:Conc c σ B s){p:Addr×OV}(hp:p∈σ.own):p.1<s.heap.objs.size:=(hc.base.mt p.1 (bF.own_mem (List.mem_map_of_mem hp))).2.2.2
theorem Conc.notF(hc:Conc c σ B s){a:Addr}(ha:a∈cels c.env σ.env++σ.own.map (·.1)):a∉c.F:=by
 intro hF
 have hm:a∈bF c σ:=List.mem_cons_of_mem _ ha
 refine m7 (hc.base.mt a hm) fun b1 b2 b3 b4=>aH (List.mem_filterMap.mp hF) fun e he hfe=>?_
 rcases List.mem_cons.mp he with rfl|he
 ·refine dT hc.base.ok.flive fun L hL hge hw=>?_
  rw[hfe] at hL;cases hL
  rcases hw with rfl|⟨o,ho,_⟩
  ·exact(List.nodup_cons.mp hc.base.nod).1 ha
  ·exact b3 _ ho rfl
 ·refine aG (hc.base.ok.outer e he) fun _ z0=>E2x5.e z0 fun L o hL _ ho _ hn=>?_
  clear z0
  rw[hfe] at hL;cases hL
  rcases b2 with b2|b2
  ·exact hn b2
  ·exact absurd (Heap.lt_size ho) (Nat.not_lt.mpr b2)
theorem Conc.frameObj(hc:Conc c σ B s):∀e∈c.fenv::c.outer,e.scope.kind≠ .module∧E2x6 (fun L o=>e.frame=some L) (fun L o=>B L=none) (fun L o=>s.heap.get? L=some o) (fun L o=>(∀vs,o.data≠ .fields vs)) (fun L o=>L∉σ.own.map (·.1)) (fun L o=>L<s.heap.objs.size):=by
 intro e he
 rcases List.mem_cons.mp he with rfl|he
 ·refine⟨hc.base.ok.fkind,?_⟩
  refine dT hc.base.ok.flive fun L hL hge hw=>?_
  rcases hw with rfl|⟨o,ho,hd⟩
  ·refine aH hc.vars fun m z2 _=>cI z2 fun o z4=>?_
   clear z2
   refine cI z4 fun es z6=>?_
   clear z4
   refine dT z6 fun ep h1 h2 _=>?_
   clear z6
   refine⟨_,o,hL,(hc.base.mt _ (bF.local_mem c σ)).1,h1,(fun vs q=>by rw[h2] at q;cases q),fun q=>(bF.split hc.base.nod).2.1 q,Heap.lt_size h1⟩
  ·exact aH (hc.base.pins _ ho) fun sl e1 _=>⟨L,_,hL,(hc.base.pfree _ ho).1,e1,hd,fun q=>(hc.base.mt L (bF.own_mem q)).2.2.1 _ ho rfl,Heap.lt_size e1⟩
 ·refine aG (hc.base.ok.outer e he) fun hk z0=>E2x5.e z0 fun L o hL hB ho hd hn=>?_
  clear z0
  refine aH (hc.base.stay L o ho hn) fun sl e1 _=>?_
  refine⟨hk,L,_,hL,?_,e1,hd,fun q=>?_,Heap.lt_size e1⟩
  ·cases q:B L with
   |none=>rfl
   |some o' =>rw[hc.base.Bnew L o' q (Heap.lt_size ho)] at hB;cases hB
  ·rcases(hc.base.mt L (bF.own_mem q)).2.1 with h|h
   ·exact hn h
   ·exact absurd (Heap.lt_size ho) (Nat.not_lt.mpr h)
theorem Conc.conc0(hc:Conc c σ B s){lent rest:List (Addr×OV)}(hl:cT σ.own lent rest):yA c.g (c.fenv::c.outer) lent B s where
 TB:=hc.base.TB
 frz:=hc.base.frz
 owns:=fun p hp=>hc.own p (hl.perm.mem_iff.mpr (List.mem_append_left _ hp))
 nod:=by
  have h:=(bF.split hc.base.nod).2.2.2.1
  have:=(hl.perm.map (·.1)).nodup_iff.mp h
  rw[List.map_append] at this
  exact(List.nodup_append.mp this).1
 onB:=fun p hp=>(hc.base.mt p.1 (bF.own_mem (List.mem_map_of_mem (hl.perm.mem_iff.mpr (List.mem_append_left _ hp))))).1
 outer:=fun e he=>by
  refine aG (hc.frameObj e he) fun h1 z0=>E2x6.e z0 fun L o h2 h3 h4 h5 h6 _=>?_
  clear z0
  refine⟨h1,L,o,h2,h3,h4,h5,fun q=>h6 ?_⟩
  refine aH (List.mem_map.mp q) fun p hp z2=>?_
  subst z2
  exact List.mem_map_of_mem (hl.perm.mem_iff.mpr (List.mem_append_left _ hp))
theorem Conc.after{lent rest own' :List (Addr×OV)}{B' :Fz}{s' :Shared}(hc:Conc c σ B s)(hl:cT σ.own lent rest)(ha:mJ c.g (c.fenv::c.outer) lent own' B s B' s'):Conc c ⟨σ.env,own' ++rest⟩ B' s' :=by
 refine j4 (bF.split hc.base.nod) fun n1 n2 n3 n4 n5=>?_
 have hperm:(σ.own.map (·.1)).Perm (lent.map (·.1)++rest.map (·.1)):=by rw[←List.map_append];exact hl.perm.map _
 have hsub:∀a,a∈lent.map (·.1)→a∈σ.own.map (·.1):=fun a h=>hperm.mem_iff.mpr (List.mem_append_left _ h)
 have hsub' :∀a,a∈rest.map (·.1)→a∈σ.own.map (·.1):=fun a h=>hperm.mem_iff.mpr (List.mem_append_right _ h)
 have nd:=hperm.nodup_iff.mp n4
 have hlr:∀a∈rest.map (·.1),a∉lent.map (·.1):=fun a h1 h2=>(List.nodup_append.mp nd).2.2 a h2 a h1 rfl
 have hLl:c.env.locals∉lent.map (·.1):=fun h=>n2 (hsub _ h)
 have hcl:∀a∈cels c.env σ.env,a∉lent.map (·.1):=fun a h1 h2=>n5 a h1 (hsub a h2)
 have hF:(c.fenv::c.outer).filterMap (·.frame)=c.F:=rfl
 have keepOf:∀a o,s.heap.get? a=some o→a∉lent.map (·.1)→a∉c.F→s'.heap.get? a=some o:=fun a o e h1 h2=>(ha.stay a o e h1).exact h2
 have Bn:∀a,a<s.heap.objs.size→B a=none→B' a=none:=fun a h1 h2=>by
  cases q:B' a with
  |none=>rfl
  |some o=>rw[ha.Bnew a o q h1] at h2;cases h2
 have own'lt:∀p∈own',p.1<s'.heap.objs.size:=fun p hp=>by obtain⟨o,e⟩:=(ha.owns p hp).get;exact Heap.lt_size e
 have hMut:∀a∈bF c ⟨σ.env,own' ++rest⟩,(a∈bF c σ∧a∉own'.map (·.1))∨a∈own'.map (·.1):=fun a h=>by
  by_cases q:a∈own'.map (·.1)
  ·exact .inr q
  ·refine .inl ⟨?_,q⟩
   simp only[bF,List.mem_cons,List.mem_append,List.map_append] at h ⊢
   rcases h with h|h|h|h
   ·exact .inl h
   ·exact .inr (.inl h)
   ·exact absurd h q
   ·exact .inr (.inr (hsub' a h))
 have own'new:∀a∈own'.map (·.1),B' a=none∧(a∈lent.map (·.1)∨s.heap.objs.size≤a)∧a<s'.heap.objs.size:=fun a h=>by
  refine aH (List.mem_map.mp h) fun p hp z2=>?_
  subst z2
  exact⟨(ha.onB p hp).1,(ha.onB p hp).2,own'lt p hp⟩
 refine⟨⟨hc.base.ok,?_,Nat.le_trans hc.base.size ha.size,?_,fun a o e=>ha.Bold a o (hc.base.TB a o e),ha.frz,hc.base.Bold.trans ha.Bold,fun a o e hlt=>hc.base.Bnew a o (ha.Bnew a o e (Nat.lt_of_lt_of_le hlt hc.base.size)) hlt,?_,?_,?_,?_⟩,hc.names,?_,?_⟩
 ·exact pJ.e hc.base.rest fun h tk e=>pJ.e ha.rest fun h' tk' e' =>⟨h',tk',by rw[e',e]⟩
 ·refine hc.base.stay.trans ha.stay (fun a h=>?_) fun a o e h=>by rw[←hF];exact h
  rcases(hc.base.mt a (bF.own_mem (hsub a h))).2.1 with h1|h1
  ·exact .inl h1
  ·refine .inr ?_
   cases e:c.s0.heap.get? a with
   |none=>rfl
   |some o=>exact absurd (Heap.lt_size e) (Nat.not_lt.mpr h1)
 ·exact fun p hp=>(hc.base.pins p hp).stay ha.stay (fun h=>(hc.base.mt p.1 (bF.own_mem (hsub _ h))).2.2.1 p hp rfl) fun h=>h
 ·exact fun p hp=>⟨Bn p.1 (hc.base.pins p hp).lt (hc.base.pfree p hp).1,(hc.base.pfree p hp).2⟩
 ·have h1:(own'.map (·.1)++rest.map (·.1)).Nodup:=List.nodup_append.mpr ⟨ha.nod,(List.nodup_append.mp nd).2.1,fun a h1 b h2 e=>by
   subst e
   rcases(own'new a h1).2.1 with h3|h3
   ·exact hlr a h2 h3
   ·refine aH (List.mem_map.mp (hsub' a h2)) fun p hp z2=>?_
    subst z2
    exact absurd (hc.ownLt hp) (Nat.not_lt.mpr h3)⟩
  have new:∀a∈own'.map (·.1),a∈σ.own.map (·.1)∨s.heap.objs.size≤a:=fun a h=>(own'new a h).2.1.imp (hsub a) id
  have old:∀a∈bF c σ,a<s.heap.objs.size:=fun a h=>(hc.base.mt a h).2.2.2
  simp only[bF,List.map_append,List.nodup_cons,List.mem_append,not_or,List.nodup_append]
  refine⟨⟨n1,fun h=>?_,fun h=>n2 (hsub' _ h)⟩,n3,List.nodup_append.mp h1,fun a h2 b h3 e=>?_⟩
  ·rcases new _ h with h|h
   ·exact n2 h
   ·exact absurd (old _ (bF.local_mem c σ)) (Nat.not_lt.mpr h)
  ·subst e
   rcases h3 with h3|h3
   ·rcases new _ h3 with h|h
    ·exact n5 a h2 h
    ·exact absurd (old _ (bF.cel_mem h2)) (Nat.not_lt.mpr h)
   ·exact n5 a h2 (hsub' _ h3)
 ·intro a h
  rcases hMut a h with⟨h1,h2⟩|h1
  ·exact m7 (hc.base.mt a h1) fun b1 b2 b3 b4=>⟨Bn a b4 b1,b2,b3,Nat.lt_of_lt_of_le b4 ha.size⟩
  ·refine eT (own'new a h1) fun b1 b2 b3=>?_
   refine⟨b1,?_,?_,b3⟩
   ·rcases b2 with b2|b2
    ·exact(hc.base.mt a (bF.own_mem (hsub a b2))).2.1
    ·exact .inr (Nat.le_trans hc.base.size b2)
   ·rcases b2 with b2|b2
    ·exact(hc.base.mt a (bF.own_mem (hsub a b2))).2.2.1
    ·exact fun p hp e=>absurd (e▸(hc.base.pins p hp).lt) (Nat.not_lt.mpr b2)
 ·refine aH hc.vars fun m hn hv=>cI (id hn) fun o z0=>cI z0 fun es z2=>?_
  clear z0
  refine aH z2 fun ep ho r=>?_
  clear z2
  refine⟨m,(ha.stay _ o ho hLl).ns ho hn,fun p hp=>(hv p hp).step ha.Bold fun a vo ⟨o',e'⟩ el ic=>?_⟩
  refine aH ic fun oc e1 e2=>?_
  clear ic
  have hac:a∈cels c.env σ.env:=eE el (by rw[←e'];exact hp)
  exact⟨oc,keepOf a oc e1 (hcl a hac) (hc.notF (List.mem_append_left _ hac)),e2⟩
 ·intro p hp
  rcases List.mem_append.mp hp with hp|hp
  ·exact ha.owns p hp
  ·have hp' :p∈σ.own:=hl.perm.mem_iff.mpr (List.mem_append_right _ hp)
   exact((hc.own p hp').mono ha.Bold).at fun o e=>keepOf p.1 o e (hlr _ (List.mem_map_of_mem hp)) (hc.notF (List.mem_append_right _ (List.mem_map_of_mem hp')))
theorem Conc.flew{lent rest own' :List (Addr×OV)}{B' :Fz}{s' :Shared}{ea:Addr}{cls:Value}(hc:Conc c σ B s)(hl:cT σ.own lent rest)(hF:GA own' s B' s' ea cls):E0 c ⟨σ.env,own' ++rest⟩ B' ea cls s'.heap:=by
 have gh:∀a,s.heap.objs.size≤a→B' a=none→a∉own'.map (·.1)→aP c ⟨σ.env,own' ++rest⟩ B' a:=fun a h1 h2 h3=>by
  refine⟨Nat.le_trans hc.base.size h1,fun h=>?_,h2,fun p hp e=>absurd (e▸(hc.base.pins p hp).lt) (Nat.not_lt.mpr h1)⟩
  have:a∈bF c σ:=by
   simp only[bF,List.mem_cons,List.mem_append,List.map_append] at h ⊢
   rcases h with h|h|h|h
   ·exact .inl h
   ·exact .inr (.inl h)
   ·exact absurd h h3
   ·refine .inr (.inr ?_)
    refine aH (List.mem_map.mp h) fun p hp z2=>?_
    subst z2
    exact List.mem_map_of_mem (hl.perm.mem_iff.mpr (List.mem_append_right _ hp))
  exact absurd (hc.base.mt a this).2.2.2 (Nat.not_lt.mpr h1)
 refine aG hF fun z0 z1=>?_
 clear hF
 refine eT z0 fun h1 h2 h3=>?_
 clear z0
 refine lJ.e z1 fun oe vs T oT ts e1 e2 e3 e4 e5 z4 e6 e7 e8=>?_
 clear z1
 refine eT z4 fun t1 t2 t3=>?_
 clear z4
 exact⟨gh ea h1 h2 h3,oe,vs,e1,e2,e3,.inr ⟨T,oT,ts,e4,e5,gh T t1 t2 t3,e6,e7,.inl e8⟩⟩
end
theorem CL{c:Cx}{σ:St}{X:Value→St→Prop}{Q:V→St→Prop}{n:Nat}{f:V}{xs:List V}{lent rest:List (Addr×OV)}{XC:XO}{QC:V→List (Addr×OV)→Prop}{B:Fz}{s:Shared}{fv:Value}{vs:List Value}{Φ Ψ:Value→Shared→Prop}
  (hl:cT σ.own lent rest) (hn:n≤c.lvl) (hw:aS c.g n f xs lent XC QC) (hQ:∀x own',(∀p∈own',p.1∈lent.map (·.1)∨qH c p.1)→QC x own'→Q x ⟨σ.env,own' ++rest⟩) (hX:∀cls own',XC cls own'→X cls ⟨σ.env,own' ++rest⟩)
  (hf:c5 c.g B f fv) (hr:Reps c.g B xs vs) (hc:Conc c σ B s)
  (hΦ:vT c (c5 c.g) B Q Φ) (hΨ:jC c X Ψ):wpAny (model c.g.prog c.g.w) c.A (call fv vs) Φ Ψ s:=by
 refine wpAny_call (hw c.A (c.fenv::c.outer) B s fv vs _ ⟨hc.base.ok.handled,hc.base.ok.frames,by have:=hc.base.ok.depth;exact aI [_,_,_] [] (.Le .x .y) 4 (.Le (.a .w (.m 4 .y)) (.n 900)) 1 (.Le (.a .w (.m 4 .x)) (.n 900)) 0 qq hn this,by have:=hc.base.ok.units;exact aI [_,_,_] [] (.Le .x .y) 30 (.Le (.a .w (.m 30 .y)) (.n 9000)) 1 (.Le (.a .w (.m 30 .x)) (.n 9000)) 0 qq hn this⟩ (hc.conc0 hl) hf hr ?_ ?_)
 ·exact fun v x own' B' s' hq hrep ha=>hΦ v x _ B' s' (hQ x own' (fun p hp=>(ha.onB p hp).2.imp id fun q=>Nat.le_trans hc.base.size q) hq) hrep ha.Bold (hc.after hl ha)
 ·exact fun ea cls own' B' s' hx ha hf=>hΨ _ _ ⟨_,B',ea,cls,hX cls own' hx,rfl,hc.after hl ha,hc.flew hl hf⟩
theorem FunFrames.of_each{h base:Heap}:∀{l:List Env},(∀e∈l,e.scope.kind≠ .module∧cW (fun L o=>e.frame=some L) (fun L o=>base.get? L=none) (fun L o=>h.get? L=some o) (fun L o=>∀vs,o.data≠ .fields vs))→h.FunFrames base l
 | [],_=>trivial
 |e::r,H=>⟨(H e (List.mem_cons_self ..)).1,(by refine cW.e ((H e (List.mem_cons_self ..)).2) fun L o a b d f=>?_;exact⟨L,o,a,b,d,f⟩),FunFrames.of_each fun e' h' =>H e' (List.mem_cons_of_mem _ h')⟩
noncomputable def k7(c:Cx)(σ:St)(B:Fz)(ea:Addr)(cls mk:Value)(h:Heap):Prop:=
 aP c σ B ea∧lJ (fun oe vs T oT ts=>h.get? ea=some oe) (fun oe vs T oT ts=>oe.cls=cls) (fun oe vs T oT ts=>oe.data= .fields vs) (fun oe vs T oT ts=>vs[1]? =some (.ref T)) (fun oe vs T oT ts=>T≠ea) (fun oe vs T oT ts=>aP c σ B T) (fun oe vs T oT ts=>h.get? T=some oT) (fun oe vs T oT ts=>oT.data= .fields ts) (fun oe vs T oT ts=>ts[3]? =some mk)
section
variable {c:Cx}{σ:St}{B:Fz}{s:Shared}{ea:Addr}{cls mk:Value}
theorem aP.notB{a:Addr}{o:Obj}(e:B a=some o):¬aP c σ B a:=fun g=>by rw[g.2.2.1] at e;cases e
theorem aP.notMut{a:Addr}(e:a∈bF c σ):¬aP c σ B a:=fun g=>g.2.1 e
theorem Conc.frameGhost(hc:Conc c σ B s):∀a∈c.F,¬aP c σ B a:=fun a ha g=>by
 refine aH (List.mem_filterMap.mp ha) fun e he hfe=>?_
 rcases List.mem_cons.mp he with rfl|he
 ·refine dT hc.base.ok.flive fun L hL hge hw=>?_
  rw[hL] at hfe;cases hfe
  rcases hw with rfl|⟨o,ho,_⟩
  ·exact g.2.1 (bF.local_mem c σ)
  ·exact g.2.2.2 _ ho rfl
 ·refine aG (hc.base.ok.outer e he) fun _ z0=>E2x5.e z0 fun L' o hL' _ ho _ _=>?_
  clear z0
  rw[hfe] at hL';cases hL'
  exact absurd (Heap.lt_size ho) (Nat.not_lt.mpr g.1)
theorem Conc.frzF(hc:Conc c σ B s){a:Addr}{o:Obj}(e:B a=some o):a∉c.F:=fun hF=>by
 refine aH (List.mem_filterMap.mp hF) fun en he hfe=>?_
 obtain⟨_,L,_,h1,h2,_⟩:=hc.frameObj en he
 rw[hfe] at h1;cases h1
 rw[h2] at e;cases e
theorem oV{env:Env}{l:List (Str×Slot)}{a:Addr}(h:a∈cels env l):fT (fun x o=>(x,Slot.cel o)∈l) (fun x o=>env.cells.lookup x=some a):=by
 obtain⟨⟨x,sl⟩,hp,e⟩:=List.mem_filterMap.mp h
 cases sl with
 |cel o=>exact⟨x,o,hp,e⟩
 |_=>cases e
theorem Conc.live(hc:Conc c σ B s){a:Addr}(ha:a∈bF c σ):∃o,s.heap.get? a=some o:=by
 refine aH hc.vars fun m hn hv=>?_
 simp only[bF,List.mem_cons,List.mem_append] at ha
 rcases ha with rfl|ha|ha
 ·refine cI hn fun o z0=>?_
  clear hn
  refine cI z0 fun _ z2=>?_
  clear z0
  refine cI z2 fun _ z4=>?_
  clear z2
  refine aG z4 fun e _=>?_
  clear z4;exact⟨o,e⟩
 ·refine fT.e (oV ha) fun x o h1 h2=>aG (hv _ h1) fun _ z0=>cJ.e z0 fun a' vo e z2 _=>?_
  clear z0
  refine aH z2 fun oc e2 _=>?_
  clear z2
  rw[h2] at e;cases e
  exact⟨oc,e2⟩
 ·refine aH (List.mem_map.mp ha) fun p hp z2=>?_
  subst z2
  exact(hc.own p hp).get
theorem Conc.kept(hc:Conc c σ B s){h' :Heap}{tk:Nat}(hk:∀a o,s.heap.get? a=some o→¬aP c σ B a→kN c.F h' a o):Conc c σ B {s with heap:=h',toks:=tk}:=by
 have lt' :∀a∈bF c σ,a<h'.objs.size:=fun a ha=>by obtain⟨o,e⟩:=hc.live ha;exact(hk a o e fun g=>g.2.1 ha).lt
 have hs0:c.s0.heap.objs.size≤h'.objs.size:=by
  refine dT hc.base.ok.flive fun L hL hge hw=>?_
  rcases hw with rfl|⟨o,ho,_⟩
  ·exact Nat.le_trans hge (Nat.le_of_lt (lt' _ (bF.local_mem c σ)))
  ·exact aH (hc.base.pins _ ho) fun sl e _=>Nat.le_trans hge (Nat.le_of_lt (hk L _ e fun g=>g.2.2.2 _ ho rfl).lt)
 refine j4 (bF.split hc.base.nod) fun n1 n2 n3 n4 n5=>?_
 have ex:∀a o,s.heap.get? a=some o→¬aP c σ B a→a∉c.F→h'.get? a=some o:=fun a o e h1 h2=>(hk a o e h1).exact h2
 refine⟨⟨hc.base.ok,?_,hs0,?_,hc.base.TB,fun a o e=>ex a o (hc.base.frz a o e) (aP.notB e) (hc.frzF e),hc.base.Bold,hc.base.Bnew,?_,hc.base.pfree,hc.base.nod,fun a ha=>by obtain⟨h1,h2,h3,h4⟩:=hc.base.mt a ha;exact⟨h1,h2,h3,lt' a ha⟩⟩,hc.names,?_,?_⟩
 ·exact pJ.e hc.base.rest fun h t e=>⟨h',tk,by rw[e]⟩
 ·intro a o e hm
  exact aH (hc.base.stay a o e hm) fun sl e1 q=>aH (hk a _ e1 fun g=>absurd (Heap.lt_size e) (Nat.not_lt.mpr g.1)) fun sl' e2 q' =>⟨sl',e2,fun z=>(q' z).trans (q z)⟩
 ·intro p hp
  exact aH (hc.base.pins p hp) fun sl e1 q=>aH (hk p.1 _ e1 fun g=>g.2.2.2 p hp rfl) fun sl' e2 q' =>⟨sl',e2,fun z=>(q' z).trans (q z)⟩
 ·refine aH hc.vars fun m hn hv=>cI (id hn) fun o z0=>cI z0 fun es z2=>?_
  clear z0
  refine aH z2 fun ep ho r=>?_
  clear z2
  refine⟨m,(hk _ o ho (aP.notMut (bF.local_mem c σ))).ns ho hn,fun p hp=>(hv p hp).step (Fz.Le.refl B) fun a vo ⟨o',e'⟩ el ic=>?_⟩
  refine aH ic fun oc e1 e2=>?_
  clear ic
  have hac:a∈cels c.env σ.env:=eE el (by rw[←e'];exact hp)
  exact⟨oc,ex a oc e1 (aP.notMut (bF.cel_mem hac)) (hc.notF (List.mem_append_left _ hac)),e2⟩
 ·exact fun p hp=>(hc.own p hp).at fun o e=>ex p.1 o e (aP.notMut (bF.own_mem (List.mem_map_of_mem hp))) (hc.notF (List.mem_append_right _ (List.mem_map_of_mem hp)))
theorem pL{h:Heap}{a b:Addr}{o:Obj}{f:Obj→Obj}{F:List Addr}(hne:b≠a)(e:h.get? b=some o):kN F (h.update a f) b o:= .of_get ((Heap.get?_update_other h f (Ne.symm hne)).trans e)
theorem dB(hc:Conc c σ B s)(hN:k7 c σ B ea cls mk s.heap)(fr:Option Addr){Q:Unit→Shared→Prop}{E:Value→Shared→Prop}{A' :Around}
  (h:∀s',Conc c σ B s'→k7 c σ B ea cls (fr.elim .none fun f=>rawInt f) s'.heap→Q () s'):wpAny (model c.g.prog c.g.w) A' (setFlight (.ref ea) fr) Q E s:=by
 refine aG hN fun ge z0=>?_
 clear hN
 refine lJ.e z0 fun oe vs T oT ts e1 e2 e3 e4 e5 e6 e7 e8 e9=>?_
 clear z0
 unfold setFlight
 refine wpAny_bind (wpAny_field e1 e3 e4 ?_)
 rw[if_pos (show(Value.ref T != Value.none)=true from by simp)]
 refine wpAny_setField e7 e8 (Array.getElem?_eq_some_iff.mp e9).1 (h _ ?_ ?_)
 ·exact hc.kept (tk:=s.toks) fun a o e g=>pL (fun q=>g (q▸e6)) e
 ·have hT:((s.heap.update T (Obj.mapFields (·.setIfInBounds 3 (fr.elim .none fun f=>rawInt f)))).get? T)=some (Obj.mapFields (·.setIfInBounds 3 (fr.elim .none fun f=>rawInt f)) oT):=
   Heap.get?_update_self _ e7 (Obj.isFreed_of_fields (Obj.data_mapFields e8 _))
  refine⟨ge,oe,vs,T,_,_,(Heap.get?_update_other _ _ e5).trans e1,e2,e3,e4,e5,e6,hT,Obj.data_mapFields e8 _,?_⟩
  have:=(Array.getElem?_eq_some_iff.mp e9).1
  simp[this]
theorem E0.noted(hF:E0 c σ B ea cls s.heap):(E2x5 (fun oe vs=>aP c σ B ea) (fun oe vs=>s.heap.get? ea=some oe) (fun oe vs=>oe.cls=cls) (fun oe vs=>oe.data= .fields vs) (fun oe vs=>vs[1]? =some .none))∨k7 c σ B ea cls .none s.heap∨∃L,c.fenv.frame=some L∧k7 c σ B ea cls (rawInt L) s.heap:=by
 refine aG hF fun ge z0=>?_
 clear hF
 refine cW.e z0 fun oe vs h1 h2 h3 h4=>?_
 clear z0
 rcases h4 with h4|⟨T,oT,ts,a1,a2,a3,a4,a5,a6⟩
 ·exact .inl ⟨oe,vs,ge,h1,h2,h3,h4⟩
 ·rcases a6 with a6|⟨L,hL,a6⟩
  ·exact .inr (.inl ⟨ge,oe,vs,T,oT,ts,h1,h2,h3,a1,a2,a3,a4,a5,a6⟩)
  ·exact .inr (.inr ⟨L,hL,ge,oe,vs,T,oT,ts,h1,h2,h3,a1,a2,a3,a4,a5,a6⟩)
theorem k7.fly{L:Addr}(hL:c.fenv.frame=some L)(hN:k7 c σ B ea cls (rawInt L) s.heap):E0 c σ B ea cls s.heap:=
 let ⟨ge,oe,vs,T,oT,ts,h1,h2,h3,a1,a2,a3,a4,a5,a6⟩:=hN
 ⟨ge,oe,vs,h1,h2,h3,.inr ⟨T,oT,ts,a1,a2,a3,a4,a5,.inr ⟨L,hL,a6⟩⟩⟩
theorem l7{env:Env}{L:Addr}{head:Value}{hadNext:Bool}(hc:Conc c σ B s)(hfe:env.frame=c.fenv.frame)(hL:c.fenv.frame=some L){oe:Obj}{vs:Array Value}(ge:aP c σ B ea)(he:s.heap.get? ea=some oe)(hcl:oe.cls=cls)
  (hd:oe.data= .fields vs) (hsz:1<vs.size) {Q:Unit→Shared→Prop} {E:Value→Shared→Prop}
  (h:∀s',Conc c σ B s'→k7 c σ B ea cls (rawInt L) s'.heap→Q () s'):
  wpAny (model c.g.prog c.g.w) c.A (do let a ←PySem.frameOf env;let pl ←entryPlaceOf L hadNext;let b ←EntryCells.newEntry head a .none (rawInt L) .none pl;setField (.ref ea) 1 b) Q E s:=by
 have hl:s.heap.FunFrames ({}:Heap) (c.fenv::c.outer):=FunFrames.of_each fun e hm=>by
  obtain⟨k,L,o,a1,a2,a3,a4,a5⟩:=hc.frameObj e hm
  exact⟨k,L,o,a1,rfl,a3,a4⟩
 have hfo:∀{Q' :Value→Shared→Prop} {E' :Value→Shared→Prop},(∀h',Heap.SlotsOnly c.F s.heap h'→Q' (.ref L) {s with heap:=h'})→wpAny (model c.g.prog c.g.w) c.A (PySem.frameOf env) Q' E' s:=fun{Q' E'} hq=>by
  unfold PySem.frameOf
  refine wpAny_bind (wpAny_frameEnvs hc.base.ok.frames ?_)
  have hdw:((c.fenv::c.outer).dropWhile fun x=>x.frame != env.frame)=c.fenv::c.outer:=by simp[List.dropWhile,hfe]
  rw[hdw]
  unfold frameObject
  refine wpAny_bind (wpAny_bind (wpAny_readyFrames_fun hl fun h₁ hs₁=>wpAny_pure ?_))
  rw[hL]
  exact wpAny_pure (hq h₁ hs₁)
 refine wpAny_bind (hfo fun h₁ hs₁=>?_)
 refine wpAny_bind (wpAny_entryPlaceOf fun pl hpl=>?_)
 unfold EntryCells.newEntry newFields
 refine wpAny_bind (wpAny_newObj_type ?_ (hpl.sizeOk5 _ _ _ _ _))
 have heF:ea∉c.F:=fun q=>hc.frameGhost ea q ge
 have he₁:h₁.get? ea=some oe:=(hs₁.2.1 ea heF).trans he
 have he₂:=Heap.get?_push_of_some (h:=h₁) {cls:= .type "traceback",dict:=none,data:= .fields ([head,.ref L,.none,rawInt L,.none]++(if pl.isEmpty then List.replicate 6 Value.none else pl)).toArray} he₁
 refine wpAny_setField he₂ hd hsz (h _ ?_ ?_)
 ·refine hc.kept (tk:=s.toks) fun a o e g=>?_
  have hne:a≠ea:=fun q=>g (q▸ge)
  refine cI (hs₁.2.2 a o e) fun sl x=>?_
  have y:=Heap.get?_push_of_some (h:=h₁) {cls:= .type "traceback",dict:=none,data:= .fields ([head,.ref L,.none,rawInt L,.none]++(if pl.isEmpty then List.replicate 6 Value.none else pl)).toArray} x
  refine⟨sl,(Heap.get?_update_other _ _ (Ne.symm hne)).trans y,fun hF=>?_⟩
  have:=hs₁.2.1 a hF
  rw[x,e] at this
  injection this with this
  exact congrArg Obj.slots this
 ·have hTe:h₁.objs.size≠ea:=Nat.ne_of_gt (Heap.lt_size he₁)
  have hd₃:=Obj.data_mapFields hd (·.setIfInBounds 1 (Value.ref h₁.objs.size))
  have he₃:=Heap.get?_update_self (Obj.mapFields (·.setIfInBounds 1 (Value.ref h₁.objs.size))) he₂ (Obj.isFreed_of_fields hd₃)
  have hT₃:=(Heap.get?_update_other (h₁.push {cls:= .type "traceback",dict:=none,data:= .fields ([head,.ref L,.none,rawInt L,.none]++(if pl.isEmpty then List.replicate 6 Value.none else pl)).toArray})
   (Obj.mapFields (·.setIfInBounds 1 (Value.ref h₁.objs.size))) (Ne.symm hTe)).trans (Heap.get?_push_size h₁ rfl)
  have gT:aP c σ B h₁.objs.size:=by
   rw[hs₁.1]
   exact⟨hc.base.size,hc.base.notMut,hc.base.fresh,fun p hp q=>absurd (q▸(hc.base.pins p hp).lt) (Nat.lt_irrefl _)⟩
  exact⟨ge,_,_,h₁.objs.size,_,_,he₃,(Obj.cls_mapFields _ _).trans hcl,hd₃,by simp[hsz],hTe,gT,hT₃,rfl,by simp⟩
theorem fB{env:Env}{L:Addr}(hc:Conc c σ B s)(hfe:env.frame=c.fenv.frame)(hL:c.fenv.frame=some L)(hF:E0 c σ B ea cls s.heap){Q:Unit→Shared→Prop}{E:Value→Shared→Prop}
  (h:∀s',Conc c σ B s'→k7 c σ B ea cls (rawInt L) s'.heap→Q () s'):wpAny (model c.g.prog c.g.w) c.A (noteFrame (.ref ea) env) Q E s:=by
 unfold noteFrame
 simp only[hfe,hL]
 rcases E0.noted hF with⟨oe,vs,ge,e1,e2,e3,e4⟩|⟨ge,oe,vs,T,oT,ts,e1,e2,e3,e4,e5,e6,e7,e8,e9⟩|⟨L',hL',hN⟩
 ·refine wpAny_bind (wpAny_field e1 e3 e4 ?_)
  rw[if_neg (by decide)]
  exact l7 hc hfe hL ge e1 e2 e3 (Array.getElem?_eq_some_iff.mp e4).1 h
 ·refine wpAny_bind (wpAny_field e1 e3 e4 ?_)
  rw[if_pos (show(Value.ref T != Value.none)=true from by simp)]
  refine wpAny_bind (wpAny_field e7 e8 e9 ?_)
  rw[if_neg (show¬((Value.none==rawInt L)=true) from by simp[rawInt])]
  refine wpAny_bind (wpAny_setField e7 e8 (Array.getElem?_eq_some_iff.mp e9).1 ?_)
  have hc' :Conc c σ B {s with heap:=s.heap.update T (Obj.mapFields (·.setIfInBounds 3 Value.none))}:=hc.kept (tk:=s.toks) fun a o e g=>pL (fun q=>g (q▸e6)) e
  exact l7 hc' hfe hL ge ((Heap.get?_update_other _ _ e5).trans e1) e2 e3 (Array.getElem?_eq_some_iff.mp e4).1 h
 ·rw[hL] at hL';cases hL'
  refine aG (id hN) fun ge z0=>lJ.e z0 fun oe vs T oT ts e1 e2 e3 e4 e5 e6 e7 e8 e9=>?_
  clear z0
  refine wpAny_bind (wpAny_field e1 e3 e4 ?_)
  rw[if_pos (show(Value.ref T != Value.none)=true from by simp)]
  refine wpAny_bind (wpAny_field e7 e8 e9 ?_)
  rw[if_pos (by simp)]
  exact wpAny_pure (h s hc hN)
theorem pR{env:Env}(hc:Conc c σ B s)(hfe:env.frame=c.fenv.frame)(hF:E0 c σ B ea cls s.heap){Q:Unit→Shared→Prop}{E:Value→Shared→Prop}
  (h:∀s',Conc c σ B s'→k7 c σ B ea cls .none s'.heap→Q () s'):wpAny (model c.g.prog c.g.w) c.A (leaving env (.ref ea)) Q E s:=by
 refine dT hc.base.ok.flive fun L hL _ _=>?_
 unfold leaving
 exact wpAny_bind (fB hc hfe hL hF fun s' hc' hN=>dB hc' hN none h)
end
noncomputable def j8(bs:List (Str×V)):List (Str×NameKind)→List (Str×Slot)
 | []=>[]
 |(x,.local)::r=>(x,.loc (bs.lookup x))::j8 bs r
 |(x,.cell)::r=>(x,.cel (bs.lookup x))::j8 bs r
 |(x,.globalImplicit)::r=>(x,.glob)::j8 bs r
 |_::r=>j8 bs r
theorem AW{bs:List (Str×V)}{l:List (Str×NameKind)}{p:Str×Slot}:p∈j8 bs l→(p.2= .loc (bs.lookup p.1)∧(p.1,NameKind.local)∈l)∨(p.2= .cel (bs.lookup p.1)∧(p.1,NameKind.cell)∈l)∨(p.2= .glob∧(p.1,NameKind.globalImplicit)∈l):=by
 induction l with
 |nil=>exact fun h=>nomatch h
 |cons q r ih=>
  obtain⟨x,k⟩:=q
  have up:=fun h=>(ih h).imp (And.imp id (List.mem_cons_of_mem (x,k))) (Or.imp (And.imp id (List.mem_cons_of_mem (x,k))) (And.imp id (List.mem_cons_of_mem (x,k))))
  intro h
  cases k<;>first|exact up h|(rcases List.mem_cons.mp h with rfl|h<;>first|exact up h|exact .inl ⟨rfl,List.mem_cons_self ..⟩|exact .inr (.inl ⟨rfl,List.mem_cons_self ..⟩)|exact .inr (.inr ⟨rfl,List.mem_cons_self ..⟩))
theorem oJ{bs:List (Str×V)}:∀l:List (Str×NameKind),((j8 bs l).map (·.1)).Sublist (l.map (·.1))
 | []=> .slnil
 |(x,k)::r=>by cases k<;>first|exact(oJ r).cons_cons _|exact(oJ r).cons _
theorem cY{α:Type}{l:List (Str×α)}{x:Str}{a:α}:(l.map (·.1)).Nodup→(x,a)∈l→l.lookup x=some a:=by
 induction l with
 |nil=>exact fun _ h=>nomatch h
 |cons q r ih=>
  intro hn h
  have hn:=List.nodup_cons.mp hn
  obtain⟨y,b⟩:=q
  rw[List.lookup_cons]
  rcases List.mem_cons.mp h with e|h
  ·cases e;rw[beq_self_eq_true]
  ·have e:(x==y)=false:=beq_eq_false_iff_ne.mpr fun e=>hn.1 (e▸List.mem_map_of_mem (f:=(·.1)) h)
   rw[e]
   exact ih hn.2 h
theorem mE{x:Str}(l:List (Str×NameKind)):∀(n:Nat) (acc:List (Str×Addr)),((x,NameKind.cell)∈l∨(acc.lookup x).isSome=true)→((cellsFrom n l acc).lookup x).isSome=true:=by
 induction l with
 |nil=>exact fun n acc h=>h.resolve_left fun h=>nomatch h
 |cons q r ih=>
  intro n acc h
  obtain⟨y,k⟩:=q
  show((if(k== .cell)=true then cellsFrom (n+1) r ((y,n)::acc) else cellsFrom n r acc).lookup x).isSome=true
  by_cases hk:(k==NameKind.cell)=true
  ·rw[if_pos hk]
   refine ih _ _ ?_
   by_cases q:x=y
   ·right;rw[q,List.lookup_cons,beq_self_eq_true];rfl
   ·rcases h with h|h
    ·exact .inl ((List.mem_cons.mp h).resolve_left fun e=>q (congrArg Prod.fst e))
    ·right
     rw[List.lookup_cons,beq_eq_false_iff_ne.mpr q];exact h
  ·rw[if_neg hk]
   exact ih _ _ (h.imp (fun h=>(List.mem_cons.mp h).resolve_left fun e=>hk (by cases e;rfl)) id)
theorem zV{kindOf:Str→Option NameKind}{x:Str}(l:List (Str×Value)):∀m:Str→Option Value,x∉l.map (·.1)→bindL kindOf l m x=m x:=by
 induction l with
 |nil=>exact fun _ _=>rfl
 |cons q r ih=>
  intro m h
  have h:=not_or.mp (fun z=>h (List.mem_cons.mpr z))
  refine(ih _ h.2).trans ?_
  split<;>simp[h.1]
theorem zW{kindOf:Str→Option NameKind}{x:Str}(l:List (Str×Value)):∀m:Str→Option Value,x∉l.map (·.1)→bindC kindOf l m x=m x:=by
 induction l with
 |nil=>exact fun _ _=>rfl
 |cons q r ih=>
  intro m h
  have h:=not_or.mp (fun z=>h (List.mem_cons.mpr z))
  refine(ih _ h.2).trans ?_
  split<;>simp[h.1]
theorem CQ{kindOf:Str→Option NameKind}{x:Str}{v:Value}(hk:kindOf x=some .local)(l:List (Str×Value)):∀m:Str→Option Value,(l.map (·.1)).Nodup→(x,v)∈l→bindL kindOf l m x=some v:=by
 induction l with
 |nil=>exact fun _ _ h=>nomatch h
 |cons q r ih=>
  intro m hn h
  have hn:=List.nodup_cons.mp hn
  rcases List.mem_cons.mp h with e|h
  ·cases e
   refine(zV r _ hn.1).trans ?_
   rw[if_pos hk];simp
  ·exact ih _ hn.2 h
theorem CR{kindOf:Str→Option NameKind}{x:Str}{v:Value}(hk:kindOf x=some .cell)(l:List (Str×Value)):∀m:Str→Option Value,(l.map (·.1)).Nodup→(x,v)∈l→bindC kindOf l m x=some v:=by
 induction l with
 |nil=>exact fun _ _ h=>nomatch h
 |cons q r ih=>
  intro m hn h
  have hn:=List.nodup_cons.mp hn
  rcases List.mem_cons.mp h with e|h
  ·cases e
   refine(zW r _ hn.1).trans ?_
   rw[if_neg (by rw[hk];decide)];simp
  ·exact ih _ hn.2 h
theorem vY{g:Gx}{B:Fz}{x:Str}{X:V}{xs:List V}{vs:List Value}(r:Reps g B xs vs):∀ps:List Str,(ps.zip xs).lookup x=some X→∃v,(x,v)∈ps.zip vs∧c5 g B X v:=
 r.ind (P:=fun xs vs=>∀ps:List Str,(ps.zip xs).lookup x=some X→∃v,(x,v)∈ps.zip vs∧c5 g B X v) (fun ps h=>by cases ps<;>cases h) fun{X' v l vs} a _ ih ps h=>by
  cases ps with
  |nil=>cases h
  |cons p ps=>
   rw[List.zip_cons_cons,List.lookup_cons] at h
   cases q:x==p with
   |true=>
    rw[q] at h;cases h
    exact⟨v,by rw[beq_iff_eq.mp q];exact List.mem_cons_self ..,a⟩
   |false=>
    rw[q] at h
    exact aH (ih ps h) fun v h1 h2=>⟨v,List.mem_cons_of_mem _ h1,h2⟩
structure Bv(g:Gx)(f:Addr)(fd:FuncData)(body:List Stmt):Prop where
 ho:∃o,g.T.get? f=some o∧o.data= .func fd
 hbody:fd.body= .stmts body
 clos:fd.closure=[]
 glob:fd.globals=mainGlobals
 bui:fd.builtins=builtinsNs
 co:fd.scope.isCoroutine=false
 gen:fd.scope.isGenerator=false
 kind:fd.scope.kind= .function
 code:g.T.CodeRec fd.code fd.qualname
 names:(fd.scope.names.map (·.1)).Nodup
 dbg:∀p∈fd.scope.names,(p.1==("__debug__" :Str))=false
theorem zO{env:Env}(hp:env.cells.Pairwise fun x y=>x.2≠y.2){l:List (Str×Slot)}:(l.map (·.1)).Nodup→(cels env l).Nodup:=by
 induction l with
 |nil=>exact fun _=> .nil
 |cons p r ih=>
  intro hn
  have hn:=List.nodup_cons.mp hn
  obtain⟨x,sl⟩:=p
  cases e:xN env (x,sl) with
  |none=>rw[jZ e];exact ih hn.2
  |some a=>
   rw[fL e]
   refine List.nodup_cons.mpr ⟨fun h=>?_,ih hn.2⟩
   cases sl with
   |cel o=>
    obtain⟨y,o,hy,ey⟩:=oV h
    have:x=y:=name_of_addr hp (mem_of_lookup e) (mem_of_lookup ey)
    exact hn.1 (this▸List.mem_map_of_mem (f:=(·.1)) hy)
   |_=>cases e
theorem DT{env:Env}{l:List (Str×Slot)}{a:Addr}(h:a∈cels env l):∃x,env.cells.lookup x=some a:=by obtain⟨x,_,_,e⟩:=oV h;exact⟨x,e⟩
theorem zI{g:Gx}{A:Around}{outer:List Env}{n:Nat}{own:List (Addr×OV)}{B:Fz}{s s₁:Shared}{f:Addr}{fd:FuncData}{body:List Stmt}{ps:List Str}{xs:List V}{vs:List Value}
  (hf:Bv g f fd body) (hr:CV A outer (n+1)) (hc:yA g outer own B s) (hv:Reps g B xs vs) (hps:ps.Nodup) (hlen:ps.length=vs.length)
  (x:InCallC s (callEnvC fd s.heap.objs.size f).locals (bindL (callEnvC fd s.heap.objs.size f).kindOf (ps.zip vs) fun _=>none) (callEnvC fd s.heap.objs.size f).cells
    (bindC (callEnvC fd s.heap.objs.size f).kindOf (ps.zip vs) fun _=>none) s₁):
  Conc ⟨g,A.deeper (callEnvC fd s.heap.objs.size f),callEnvC fd s.heap.objs.size f,callEnvC fd s.heap.objs.size f,outer,s,own.map (·.1),B,[],n⟩ ⟨j8 (ps.zip xs) fd.scope.names,own⟩ B s₁:=by
 have hsub:=oJ (bs:=ps.zip xs) fd.scope.names
 have hnd:((j8 (ps.zip xs) fd.scope.names).map (·.1)).Nodup:=hsub.nodup hf.names
 have hkeys:((ps.zip vs).map (·.1))=ps:=by
  rw[List.map_fst_zip];exact aB [_,_] [] (.Eq .w .x) 1 (.Le .w .x) 0 qq hlen
 have hL:s.heap.objs.size<s₁.heap.objs.size:=x.toInCall.ns.lt
 have ownLt:∀a∈own.map (·.1),a<s.heap.objs.size:=fun a h=>by
  refine aH (List.mem_map.mp h) fun p hp z2=>?_
  subst z2
  exact cI ((hc.owns p hp).get) fun o e=>Heap.lt_size e
 have Bnone:∀a,s.heap.objs.size≤a→B a=none:=fun a h=>by
  cases q:B a with
  |none=>rfl
  |some o=>exact absurd (Heap.lt_size (hc.frz a o q)) (Nat.not_lt.mpr h)
 have celAb:∀a∈cels (callEnvC fd s.heap.objs.size f) (j8 (ps.zip xs) fd.scope.names),s.heap.objs.size<a∧a<s₁.heap.objs.size:=fun a h=>by
  exact cI (DT h) fun y hy=>⟨x.above y a (mem_of_lookup hy),(x.cell y a hy).lt⟩
 have celN:=zO x.apart (l:=j8 (ps.zip xs) fd.scope.names) hnd
 refine⟨⟨⟨hf.kind,hr.handled,hf.glob,hf.bui,?_,?_,Around.frames_deeper hr.frames,?_,rfl,⟨_,rfl,Nat.le_refl _,.inl rfl⟩,?_⟩,(by refine cI x.toInCall.same fun _ z0=>?_;refine cI z0 fun _ e=>?_;clear z0;exact⟨_,_,e⟩),Nat.le_of_lt hL,pB.of_keeps fun a o e _=>x.toInCall.keep a o e,hc.TB,fun a o e=>x.toInCall.keep a o (hc.frz a o e),Fz.Le.refl B,fun _ _ e _=>e,(fun p hp=>nomatch hp),(fun p hp=>nomatch hp),?_,?_⟩,⟨hnd,?_⟩,?_,?_⟩
 ·have:=hr.depth;simp only[Around.deeper];exact aB [_,_] [] (.Le (.a .w (.m 4 (.a .x (.n 1)))) (.n 900)) 1 (.Le (.a (.a .w (.n 1)) (.m 4 .x)) (.n 900)) 0 qq this
 ·have:=hr.units;simp only[Around.deeper];exact aB [_,_] [] (.Le (.a .w (.m 30 (.a .x (.n 1)))) (.n 9000)) 1 (.Le (.a (.a .w (.n 3)) (.m 30 .x)) (.n 9000)) 0 qq this
 ·show fd.scope.kind≠ .module
  rw[hf.kind];decide
 ·intro e he
  refine aG (hc.outer e he) fun h1 z0=>E2x5.e z0 fun L o h2 h3 h4 h5 h6=>?_
  clear z0
  exact⟨h1,L,o,h2,h3,h4,h5,h6⟩
 ·simp only[bF,List.nodup_cons,List.mem_append,not_or,List.nodup_append]
  exact⟨⟨fun h=>absurd (celAb _ h).1 (Nat.lt_irrefl _),fun h=>absurd (ownLt _ h) (Nat.lt_irrefl _)⟩,celN,hc.nod,fun a h1 b h2 e=>absurd (Nat.lt_trans (celAb a h1).1 (e▸ownLt b h2)) (Nat.lt_irrefl _)⟩
 ·intro a ha
  simp only[bF,List.mem_cons,List.mem_append] at ha
  rcases ha with rfl|ha|ha
  ·exact⟨Bnone _ (Nat.le_refl _),.inr (Nat.le_refl _),(fun p hp=>nomatch hp),hL⟩
  ·exact⟨Bnone a (Nat.le_of_lt (celAb a ha).1),.inr (Nat.le_of_lt (celAb a ha).1),(fun p hp=>nomatch hp),(celAb a ha).2⟩
  ·refine aH (List.mem_map.mp ha) fun p hp z2=>?_
   subst z2
   exact⟨hc.onB p hp,.inl ha,(fun p hp=>nomatch hp),Nat.lt_trans (ownLt _ ha) hL⟩
 ·intro p hp
  have:p.1∈fd.scope.names.map (·.1):=hsub.subset (List.mem_map_of_mem hp)
  refine aH (List.mem_map.mp this) fun q hq e=>?_
  rw[←e];exact hf.dbg q hq
 ·refine⟨_,x.toInCall.ns,fun p hp=>?_⟩
  rcases AW hp with⟨e,hm⟩|⟨e,hm⟩|⟨e,hm⟩
  ·have hk:(callEnvC fd s.heap.objs.size f).kindOf p.1=some .local:=cY hf.names hm
   rw[e]
   refine⟨hk,fun X hX=>?_⟩
   refine aH (vY hv _ hX) fun v h1 h2=>?_
   exact⟨v,CQ hk _ _ (by rw[hkeys];exact hps) h1,h2⟩
  ·have hk:(callEnvC fd s.heap.objs.size f).kindOf p.1=some .cell:=cY hf.names hm
   refine cI (Option.isSome_iff_exists.mp (mE fd.scope.names (s.heap.objs.size+1) [] (.inl hm))) fun a ha=>?_
   rw[e]
   refine⟨hk,a,_,ha,x.cell p.1 a ha,fun X hX=>?_⟩
   refine aH (vY hv _ hX) fun v h1 h2=>?_
   exact⟨v,CR hk _ _ (by rw[hkeys];exact hps) h1,h2⟩
  ·rw[e]
   exact cY hf.names hm
 ·exact fun p hp=>(hc.owns p hp).at fun o e=>x.toInCall.keep _ o e
theorem Conc.leave{g:Gx}{A:Around}{env:Env}{outer:List Env}{s:Shared}{own:List (Addr×OV)}{B:Fz}{n:Nat}{σ' :St}{B' :Fz}{s' :Shared}(hL:env.frame=some env.locals)(hs:s.heap.objs.size≤env.locals)
  (hc:Conc ⟨g,A,env,env,outer,s,own.map (·.1),B,[],n⟩ σ' B' s'):mJ g outer own σ'.own B s B' s' where
 rest:=hc.base.rest
 size:=hc.base.size
 stay:=fun a o e hm=>(hc.base.stay a o e hm).frames fun h=>by
  refine aH (List.mem_filterMap.mp h) fun en he hfe=>?_
  rcases List.mem_cons.mp he with rfl|he
  ·rw[hL] at hfe;cases hfe
   exact absurd (Heap.lt_size e) (Nat.not_lt.mpr hs)
  ·exact List.mem_filterMap.mpr ⟨en,he,hfe⟩
 Bold:=hc.base.Bold
 Bnew:=hc.base.Bnew
 frz:=hc.base.frz
 owns:=hc.own
 nod:=(bF.split hc.base.nod).2.2.2.1
 onB:=fun p hp=>by obtain⟨h1,h2,_⟩:=hc.base.mt p.1 (bF.own_mem (List.mem_map_of_mem hp));exact⟨h1,h2⟩
noncomputable def kP(c:Cx):Prop:=∀x a,c.env.cells.lookup x=some a→qH c a
noncomputable def Cx.of(c:Cx)(g:Gx):Cx:={c with g:=g}
theorem s8{g:Gx}{f:Addr}{fd:FuncData}{body:List Stmt}{ps:List Str}{xs xs' :List V}{own:List (Addr×OV)}{X:XO}{Q:V→List (Addr×OV)→Prop}{n:Nat}{env₀:List (Str×Slot)}(hf:Bv g f fd body)
  (hbind:∀B (s:Shared) vs,(∀a o,g.T.get? a=some o→s.heap.get? a=some o)→(∀a o,g.T.get? a=some o→B a=some o)→Reps g B xs vs→∃vs',BindsTo s fd ⟨vs,[]⟩ (ps.zip vs')∧Reps g B xs' vs')
  (hps:ps.Nodup) (hlen:ps.length=xs'.length) (hkind:∀p∈ps,(p,NameKind.local)∈fd.scope.names∨(p,NameKind.cell)∈fd.scope.names)
  (he:j8 (ps.zip xs') fd.scope.names=env₀)
  (h:∀c:Cx,∀R:V→List (Addr×OV)→Prop,(∀v o,Q v o→R v o)→(c.of g).lvl=n→kP (c.of g)→(c.of g).env.code=fd.code→(c.of g).pins=[]→WX (c.of g) body ⟨env₀,own⟩ (FX X) (FQ R)):aS g (n+1) (.val (.ref f)) xs own X Q:=by
 intro A outer B s fv vs R r hc hfv hv hR hX
 obtain rfl:=hfv.inv
 refine aH hf.ho fun o ho hd=>?_
 have hk:∀a o,g.T.get? a=some o→s.heap.get? a=some o:=fun a o e=>hc.frz a o (hc.TB a o e)
 refine aH (hbind B s vs hk hc.TB hv) fun vs' hb hv' =>?_
 have hroom:A.depth<recursionLimit:=by have:=r.depth;have e:recursionLimit=1000:=rfl;exact aI [_,_,_] [] (.Le (.a .w (.m 4 (.a .y (.n 1)))) (.n 900)) 1000 (.Eq .x (.n 1000)) (.negSucc 896) (.Lt .w .x) 999 qq this e
 refine codeAny_call_function hroom (hk _ _ ho) hd hf.co hf.gen hf.hbody (hf.code.keeps hk) (hb _ _ _ _ ?_)
 rw[hf.clos]
 refine wpAny_newFunctionEnv_cells hf.kind (fun x hx=>?_) (fun env he' s₁ x=>?_)
 ·obtain⟨p,v⟩:=x
  rcases hkind p (List.of_mem_zip hx).1 with h|h
  ·exact .inl (cY hf.names h)
  ·exact .inr ⟨cY hf.names h,mE _ _ _ (.inl h)⟩
 ·subst he'
  refine⟨g.hl.keeps fun a o e=>x.toInCall.keep a o (hk a o e),codeAny_func ?_⟩
  have hC:=zI (xs:=xs') hf r hc hv' hps (by rw[hlen,hv'.length]) x
  rw[he] at hC
  refine h ⟨g,A.deeper (callEnvC fd s.heap.objs.size f),callEnvC fd s.heap.objs.size f,callEnvC fd s.heap.objs.size f,outer,s,own.map fun x:Addr×OV=>x.1,B,[],n⟩ Q (fun _ _ h=>h) rfl ?c1 rfl rfl B s₁ _ _ hC ?_ ?_
  case c1=>exact fun y a hy=>Nat.le_of_lt (x.above y a (mem_of_lookup hy))
  ·intro v fl σ' B' s' hq hrep hle hc'
   have ha:=Conc.leave rfl (Nat.le_refl _) hc'
   cases hrep with
   |next=>exact hR .none .none σ'.own B' s' hq .none ha
   |brk=>exact hq.elim
   |cont=>exact hq.elim
   |ret hr=>exact hR _ _ σ'.own B' s' hq hr ha
  ·intro e s' z0
   refine jO.e z0 fun σ' B' ea cls hx z1 hc' hF=>?_
   clear z0
   subst z1
   refine pR hc' rfl hF fun s'' hc'' hN=>aG hN fun ge z0=>?_
   clear hN
   refine lJ.e z0 fun oe vs₁ T oT ts h1 h2 h3 h4 h5 gT h6 h7 h8=>?_
   clear z0
   exact hX ea cls σ'.own B' s'' hx (Conc.leave rfl (Nat.le_refl _) hc'') ⟨⟨ge.1,ge.2.2.1,fun q=>ge.2.1 (bF.own_mem q)⟩,oe,vs₁,T,oT,ts,h1,h2,h3,h4,h5,⟨gT.1,gT.2.2.1,fun q=>gT.2.1 (bF.own_mem q)⟩,h6,h7,h8⟩
noncomputable def kO(B:Fz)(v:Value):Prop:=∀(M:Model) (h:Heap),(∀a o,B a=some o→h.get? a=some o)→∃k,(k=Keeper.frame∨k=Keeper.machine∨k=Keeper.boundFrame)∧Looks M h (keeperOf v) k
theorem kO.builtin{B:Fz}{id:String}:kO B (.builtin id):=fun M h _=>⟨.machine,.inr (.inl rfl),.of_pure rfl⟩
theorem kO.type{B:Fz}{T:String}:kO B (.type T):=fun M h _=>⟨.machine,.inr (.inl rfl),.of_pure rfl⟩
theorem kO.func{B:Fz}{a:Addr}{o:Obj}{fd:FuncData}(e:B a=some o)(hd:o.data= .func fd):kO B (.ref a):=fun M h hB=>by
 obtain⟨oc,od,dt,sl⟩:=o
 cases hd
 exact⟨.frame,.inl rfl,(Looks.ld (part:=none) (hB _ _ e)).andThen .now⟩
theorem kO.inK{g:Gx}{B:Fz}{v:Value}(hB:∀a o,g.T.get? a=some o→B a=some o)(h:keepIn g.K v=true):kO B v:=fun M hp hp' =>by
 exact aH (looks_keep (M:=M) h (g.hK.keeps fun a o e=>hp' a o (hB a o e))) fun k hk hl=>⟨k,hk.imp id .inl,hl⟩
noncomputable def vX(g:Gx)(f:V):Prop:=∀B v,(∀a o,g.T.get? a=some o→B a=some o)→c5 g B f v→kO B v
theorem vX.builtin{g:Gx}{id:String}:vX g (.val (.builtin id)):=fun B v _ h=>by obtain rfl:=h.inv;exact .builtin
theorem vX.type{g:Gx}{T:String}:vX g (.val (.type T)):=fun B v _ h=>by obtain rfl:=h.inv;exact .type
theorem vX.fn{g:Gx}{f:Addr}{fd:FuncData}{body:List Stmt}(hf:Bv g f fd body):vX g (.val (.ref f)):=fun B v hB h=>by
 obtain rfl:=h.inv
 exact aH hf.ho fun o ho hd=> .func (hB _ _ ho) hd
theorem vX.inK{g:Gx}{v:Value}(hk:keepIn g.K v=true):vX g (.val v):=fun B u hB h=>by
 obtain rfl:=h.inv
 exact .inK hB hk
section
variable {c:Cx}{σ:St}{X:Value→St→Prop}
noncomputable abbrev hO(c:Cx)(p:Pos)(l:List Expr)(σ:St)(X:Value→St→Prop)(Q:List V→St→Prop):Prop:=WL c (spliced (backTo p (starEach l c.env))) σ X Q
noncomputable def Ep(Q:List V→St→Prop)(x:V)(xs:List V)(σ:St):Prop:=Q (x::xs) σ
noncomputable def Hr(c:Cx)(X:Value→St→Prop)(p:Pos)(Q:List V→St→Prop)(r:List Expr)(x:V)(σ:St):Prop:=hO c p r σ X (Ep Q x)
theorem aA{p:Pos}{Q:List V→St→Prop}(h:Q [] σ):hO c p [] σ X Q:=
 fun B s Φ Ψ hc hΦ hΨ=>wpAny_items_nil (hΦ _ _ σ B s h .nil (Fz.Le.refl B) hc)
theorem a8{p:Pos}{e:Expr}{r:List Expr}{Q:List V→St→Prop}(h:WE c e σ X (Hr c X p Q r))
  (he:autoParam (starEach (e::r) c.env=(false,eval e c.env)::starEach r c.env) c8):hO c p (e::r) σ X Q:=
 fun B s Φ Ψ hc hΦ hΨ=>wpAny_items_cons (h B s _ _ hc (fun v x σ₁ B₁ s₁ hq hr hle hc₁=>hq B₁ s₁ _ _ hc₁ (fun vs xs σ₂ B₂ s₂ hq₂ hr₂ hle₂ hc₂=>hΦ _ _ σ₂ B₂ s₂ hq₂ (.cons (hr.mono hle₂) hr₂) (hle.trans hle₂) hc₂) hΨ) hΨ) he
noncomputable def fR(e:Expr):Bool:=e.ctorIdx != 22
theorem fH{p:Pos}{l:List Expr}:l.all fR=true→(backTo p (starEach l c.env)).any (·.1)=false:=by
 induction l with
 |nil=>intro _;rfl
 |cons e r ih=>
  intro h
  have hh:=Bool.and_eq_true_iff.mp h
  have ih:=ih hh.2
  have he:fR e=true:=hh.1
  clear h hh
  cases e<;>first|exact ih|exact nomatch he
noncomputable def WK(c:Cx)(f:V)(xs:List V)(σ:St)(X:Value→St→Prop)(Q:V→St→Prop):Prop:=
 ∀B s fv vs (Φ Ψ:Value→Shared→Prop),c5 c.g B f fv→Reps c.g B xs vs→Conc c σ B s→
  (vT c (c5 c.g) B Q Φ)→(jC c X Ψ)→
  wpAny (model c.g.prog c.g.w) c.A (call fv vs) Φ Ψ s
noncomputable def KK(c:Cx)(X:Value→St→Prop)(Q:V→St→Prop)(f:V)(xs:List V)(σ:St):Prop:=WK c f xs σ X Q
noncomputable def Gu(c:Cx)(X:Value→St→Prop)(p:Pos)(Q:V→St→Prop)(args:List Expr)(f:V)(σ:St):Prop:=vX c.g f∧hO c p args σ X (KK c X Q f)
theorem kI{f:Value}{p:Pos}{l:List Expr}{B:Fz}{s:Shared}{Q:List V→St→Prop}{Φ:Args→Shared→Prop}{Ψ:Value→Shared→Prop}(hpl:(backTo p (starEach l c.env)).any (·.1)=false)
  (h:hO c p l σ X Q) (hc:Conc c σ B s) (hΦ:∀vs xs σ' B' s',Q xs σ'→Reps c.g B' xs vs→B.Le B'→Conc c σ' B' s'→Φ ⟨vs,[]⟩ s') (hΨ:jC c X Ψ):
  wpAny (model c.g.prog c.g.w) c.A (evalArgs f true (backTo p (starEach l c.env)) []) Φ Ψ s:=by
 have w:=h B s (fun vs s' =>Φ ⟨vs,[]⟩ s') Ψ hc (fun vs xs σ' B' s' =>hΦ vs xs σ' B' s') hΨ
 cases hb:backTo p (starEach l c.env) with
 |nil=>
  rw[hb] at w
  have w' :wpAny (model c.g.prog c.g.w) c.A (Pure.pure ([]:List Value)) (fun vs s' =>Φ ⟨vs,[]⟩ s') Ψ s:=w
  unfold evalArgs
  show wpAny _ _ (spliced []>>= _) _ _ s
  refine wpAny_bind (wpAny_mono w (fun vs s' h' =>?_) fun _ _ x=>x)
  exact wpAny_holding (wpAny_bind (wpAny_pure (wpAny_bind (wpAny_pure (wpAny_pure h')))))
 |cons y r=>
  obtain⟨b,t⟩:=y
  rw[hb] at w hpl
  simp only[List.any_cons,Bool.or_eq_false_iff] at hpl
  refine aG hpl fun z0 _=>?_
  clear hpl
  subst z0
  exact Calls.evalArgs_plain w
theorem e_call{func:Expr}{args:List Expr}{p:Pos}{Q:V→St→Prop}
  (h:WE c func σ X (Gu c X p Q args))
  (hpl:autoParam (args.all fR=true) c8)
  (he:autoParam (eval (.Call func args [] p) c.env=(do let f ←eval func c.env;callWith p f [] (backTo p (starEach args c.env)) [])) c8):WE c (.Call func args [] p) σ X Q:=by
 intro B s Φ Ψ hc hΦ hΨ
 rw[he]
 refine wpAny_bind (h B s _ _ hc (fun fv f σ₁ B₁ s₁ hq hr hle hc₁=>?_) hΨ)
 refine aG hq fun hcal z0=>?_
 clear hq
 revert z0
 intro hq
 refine callWith_of (P:=fun hp=>∃B',B₁.Le B'∧(∀a o,B' a=some o→hp.get? a=some o)∧∀a o,c.g.T.get? a=some o→B' a=some o) (by simpa using fH hpl) (fun hp ⟨B',h1,h2,h3⟩=>hcal B' fv h3 (hr.mono h1) _ hp h2) ?_
 refine kI (fH hpl) hq hc₁ (fun vs xs σ₂ B₂ s₂ hq₂ hr₂ hle₂ hc₂=>⟨⟨B₂,hle₂,hc₂.base.frz,hc₂.base.TB⟩,?_⟩) hΨ
 exact hq₂ B₂ s₂ fv vs _ _ (hr.mono hle₂) hr₂ hc₂ (fun v x σ₃ B₃ s₃ hq₃ hr₃ hle₃ hc₃=>hΦ v x σ₃ B₃ s₃ hq₃ hr₃ ((hle.trans hle₂).trans hle₃) hc₃) hΨ
theorem pS{Q:V→St→Prop}{n:Nat}{f:V}{xs:List V}{lent rest:List (Addr×OV)}{XC:XO}{QC:V→List (Addr×OV)→Prop}
  (hl:cT σ.own lent rest) (hn:n≤c.lvl) (hw:aS c.g n f xs lent XC QC) (hQ:∀x own',(∀p∈own',p.1∈lent.map (·.1)∨qH c p.1)→QC x own'→Q x ⟨σ.env,own' ++rest⟩) (hX:∀cls own',XC cls own'→X cls ⟨σ.env,own' ++rest⟩):WK c f xs σ X Q:=
 fun B s fv vs Φ Ψ hf hr hc hΦ hΨ=>CL hl hn hw hQ hX hf hr hc hΦ hΨ
noncomputable def WM(c:Cx)(name:Str)(ov:V)(f:Value)(σ:St):Prop:=∀B s v pl (Φ:Value×List Value→Shared→Prop) (Ψ:Value→Shared→Prop),c5 c.g B ov v→Conc c σ B s→(∀tk,Φ (f,[v]) {s with toks:=tk})→
 wpAny (model c.g.prog c.g.w) c.A (getMethod v name pl) Φ Ψ s
noncomputable def HJ(c:Cx)(X:Value→St→Prop)(Q:V→St→Prop)(f:Value)(ov:V)(xs:List V)(σ:St):Prop:=WK c (.val f) (ov::xs) σ X Q
noncomputable def Em(c:Cx)(X:Value→St→Prop)(p:Pos)(Q:V→St→Prop)(name:Str)(args:List Expr)(ov:V)(σ:St):Prop:=∃f,WM c name ov f σ∧vX c.g (.val f)∧hO c p args σ X (HJ c X Q f ov)
theorem eA{p:Pos}{Q:V→St→Prop}{name:Str}{args:List Expr}{ov:V}{f:Value}(hm:WM c name ov f σ)(hc:vX c.g (.val f))(h:hO c p args σ X (HJ c X Q f ov)):Em c X p Q name args ov σ:=⟨f,hm,hc,h⟩
theorem aY{o:Expr}{name:Str}{apos p:Pos}{args:List Expr}{Q:V→St→Prop}
  (h:WE c o σ X (Em c X p Q name args))
  (hpl:autoParam (args.all fR=true) c8)
  (hbase:autoParam (attributeBase o name c.env (eval o c.env)=eval o c.env) c8)
  (hline:autoParam ((apos.endLine==p.line)=true) c8)
  (hfew:autoParam (methodCallForm (args.length+([]:List Keyword).length) (backTo p (starEach args c.env)) (backToKw p (keywordEach [] c.env))=true) c8):WE c (.Call (.Attribute o name apos) args [] p) σ X Q:=by
 intro B s Φ Ψ hc hΦ hΨ
 show wpAny _ _ (do
  let ov ←attributeBase o name c.env (eval o c.env)
  standAt apos.atName
  methodCall o name apos p c.env ov (args.length+([]:List Keyword).length) (backTo p (starEach args c.env)) (backToKw p (keywordEach [] c.env))) Φ Ψ s
 rw[hbase]
 refine wpAny_bind (h B s _ _ hc (fun v ov σ₁ B₁ s₁ hq hr hle hc₁=>wpAny_bind (wpAny_standAt ?_)) hΨ)
 refine cI hq fun f z0=>?_
 clear hq
 refine eT z0 fun hm hcal hq=>?_
 clear z0
 have hpos:methodCallPos true o c.env apos p=pure p:=by unfold methodCallPos;simp[hline]
 unfold methodCall
 rw[hfew]
 refine wpAny_bind (wpAny_holding ?_)
 show wpAny _ _ (getMethod v name _) _ _ s₁
 refine hm B₁ s₁ v _ _ _ hr hc₁ fun tk=>?_
 show wpAny _ _ (methodCallPos true o c.env apos p>>= fun callPos=>callWith callPos f [v] (backTo p (starEach args c.env)) []) _ _ _
 rw[hpos]
 refine wpAny_bind (wpAny_pure ?_)
 refine callWith_of (P:=fun hp=>∃B',B₁.Le B'∧(∀a o,B' a=some o→hp.get? a=some o)∧∀a o,c.g.T.get? a=some o→B' a=some o) (by simpa using fH hpl) (fun hp ⟨B',h1,h2,h3⟩=>hcal B' f h3 .val _ hp h2) ?_
 refine kI (fH hpl) hq (hc₁.toks tk) (fun vs xs σ₂ B₂ s₂ hq₂ hr₂ hle₂ hc₂=>⟨⟨B₂,hle₂,hc₂.base.frz,hc₂.base.TB⟩,?_⟩) hΨ
 exact hq₂ B₂ s₂ f (v::vs) _ _ .val (.cons (hr.mono hle₂) hr₂) hc₂ (fun v x σ₃ B₃ s₃ hq₃ hr₃ hle₃ hc₃=>hΦ v x σ₃ B₃ s₃ hq₃ hr₃ ((hle.trans hle₂).trans hle₃) hc₃) hΨ
end
noncomputable def l3:List String:=["enumerate", "zip", "dict_itemiterator", "dict_reverseitemiterator", "odict_iterator", "itertools.zip_longest", "itertools.pairwise"]
structure qX(g:Gx)(B:Fz)(I:Addr)(items:List V)(i:Nat)(h:Heap)(fp:List Addr)(P:Nat→Value→Prop)(St:Nat→Heap→Prop):Prop where
 walks:∀A:Around,A.handled=none→Walks g.prog g.w A I fp [I] items.length P St
 item:∀i v,P i v→∃x,items[i]? =some x∧c5 g B x v
 st:St i h
 fp:∀b∈fp,b=I∨∃o,B b=some o
 cls:∀i h,St i h→cW (fun o n=>h.get? I=some o) (fun o n=>o.cls= .type n) (fun o n=>l3.contains n=false) (fun o n=>∀v,o.data≠ .cell v)
noncomputable def mH(c:Cx)(e:Expr)(σ:St)(X:Value→St→Prop)(Q:List V→St→Prop):Prop:=
 ∀B s (Φ Ψ:Value→Shared→Prop),Conc c σ B s→
  (∀I items fp P Sx σ' B' s',Q items σ'→qX c.g B' I items 0 s'.heap fp P Sx→aP c σ' B' I→B.Le B'→Conc c σ' B' s'→Φ (.ref I) s')→
  (jC c X Ψ)→
  wpAny (model c.g.prog c.g.w) c.A (eval e c.env) (fun x s₁=>wpAny (model c.g.prog c.g.w) c.A (pyIter x) Φ Ψ s₁) Ψ s
theorem Conc.freshGhost{c:Cx}{σ:St}{B:Fz}{s:Shared}(hc:Conc c σ B s):aP c σ B s.heap.objs.size:=
 ⟨hc.base.size,hc.base.notMut,hc.base.fresh,fun p hp q=>absurd (q▸(hc.base.pins p hp).lt) (Nat.lt_irrefl _)⟩
inductive sW:V→List V→Prop
 |lst {l}:sW (.lst l) l
 |tup {l}:sW (.tup l) l
 |str {x:Str}:sW (.str x) (x.cps.toList.map fun n=> .str ⟨#[n]⟩)
 |rng {a b d:Int} {n:Nat}:Builtin.Range.small a b d=true→Builtin.Range.rangeSize a b d=n→sW (.rng a b d) ((List.range n).map fun(i:Nat)=> .int (a+(i:Int)*d))
section
variable {c:Cx}{σ:St}{X:Value→St→Prop}
theorem yU{B:Fz}{s:Shared}{x:V}{v:Value}{items:List V}{Φ Ψ:Value→Shared→Prop}(hs:sW x items)(hr:c5 c.g B x v)(hc:Conc c σ B s)
  (h:∀I fp P Sx B' s',qX c.g B' I items 0 s'.heap fp P Sx→aP c σ B' I→B.Le B'→Conc c σ B' s'→Φ (.ref I) s'):wpAny (model c.g.prog c.g.w) c.A (pyIter v) Φ Ψ s:=by
 have gh:=hc.freshGhost
 cases hs with
 |lst=>
  obtain⟨a,o,vs,n,_,h1,h2,h3,h4⟩:=hr.inv
  have hl:s.heap.IsList a vs:=⟨o,hc.base.frz _ _ h1,h2,n,h3⟩
  have hne:a≠s.heap.objs.size:=fun e=>by rw[e] at h1;rw[hc.base.fresh] at h1;cases h1
  have it:qX c.g B s.heap.objs.size items 0 (s.heap.push {cls:= .type "list_iterator",data:= .fields #[.ref a,.int 0 0]}) [s.heap.objs.size,a] (fun i v=>vs[i]? =some v) (fun i h=>h.IsListIter s.heap.objs.size a i∧h.IsList a vs):=by
   refine⟨fun A hA=>?_,fun i v e=>h4.get' (by simpa using e),⟨⟨_,Heap.get?_push_size _ rfl,rfl,rfl⟩,hl.push _⟩,fun b hb=>?_,fun i h st=>?_⟩
   ·have:=Walks.list (prog:=c.g.prog) (w:=c.g.w) hA s.heap.objs.size a hne vs
    rwa [show vs.size=items.length from(Array.length_toList (xs:=vs)).symm.trans h4.length] at this
   ·simp only[List.mem_cons,List.not_mem_nil,or_false] at hb
    rcases hb with rfl|rfl
    ·exact .inl rfl
    ·exact .inr ⟨o,h1⟩
   ·refine aG st fun z0 _=>?_
    clear st
    refine dT z0 fun o ho hcl hda=>?_
    clear z0
    exact⟨o,_,ho,hcl,by decide,fun v q=>by rw[hda] at q;cases q⟩
  exact wpAny_pyIter_list hl (h _ _ _ _ B _ it gh (Fz.Le.refl B) (hc.push _ _))
 |tup=>
  obtain⟨a,o,vs,n,h1,h2,h3,h4⟩:=hr.inv
  have hl:s.heap.IsTuple a vs:=⟨o,hc.base.frz _ _ h1,h2,n,h3⟩
  have hne:a≠s.heap.objs.size:=fun e=>by rw[e] at h1;rw[hc.base.fresh] at h1;cases h1
  have it:qX c.g B s.heap.objs.size items 0 (s.heap.push {cls:= .type "tuple_iterator",data:= .fields #[.ref a,.int 0 0]}) [s.heap.objs.size,a] (fun i v=>vs[i]? =some v) (fun i h=>h.IsTupleIter s.heap.objs.size a i∧h.IsTuple a vs):=by
   refine⟨fun A hA=>?_,fun i v e=>h4.get' (by simpa using e),⟨⟨_,Heap.get?_push_size _ rfl,rfl,rfl⟩,hl.at fun o e=>Heap.get?_push_of_some _ e⟩,fun b hb=>?_,fun i h st=>?_⟩
   ·have:=Walks.tuple (prog:=c.g.prog) (w:=c.g.w) hA s.heap.objs.size a hne vs
    rwa [show vs.size=items.length from(Array.length_toList (xs:=vs)).symm.trans h4.length] at this
   ·simp only[List.mem_cons,List.not_mem_nil,or_false] at hb
    rcases hb with rfl|rfl
    ·exact .inl rfl
    ·exact .inr ⟨o,h1⟩
   ·refine aG st fun z0 _=>?_
    clear st
    refine dT z0 fun o ho hcl hda=>?_
    clear z0
    exact⟨o,_,ho,hcl,by decide,fun v q=>by rw[hda] at q;cases q⟩
  exact wpAny_pyIter_tuple hl (h _ _ _ _ B _ it gh (Fz.Le.refl B) (hc.push _ _))
 | @str x=>
  obtain⟨t⟩:=hr.inv
  refine wpAny_pyIter_strU ?_
  cases ha:x.cps.all (·<128)
  ·have it:qX c.g B s.heap.objs.size (x.cps.toList.map fun n=>V.str ⟨#[n]⟩) 0 (s.heap.push {cls:= .type (strIterType x),data:= .fields #[.str x t,.int 0 0]}) [s.heap.objs.size] (SignAt x) (fun i h=>h.IsStrIter s.heap.objs.size "str_iterator" x t i):=by
    refine⟨fun A hA=>by simpa using Walks.strWide (prog:=c.g.prog) (w:=c.g.w) hA s.heap.objs.size x t,fun i v e=>?_,⟨_,Heap.get?_push_size _ rfl,by simp[strIterType,ha],rfl⟩,fun b hb=> .inl (by simpa using hb),fun i h st=>?_⟩
    ·refine cI e fun n z0=>?_
     clear e
     refine aH z0 fun t h1 z4=>?_
     clear z0
     subst z4
     exact⟨.str ⟨#[n]⟩,by simp[h1],.str⟩
    ·refine dT st fun o ho hcl hda=>?_
     clear st
     exact⟨o,_,ho,hcl,by decide,fun v q=>by rw[hda] at q;cases q⟩
   exact h _ _ _ _ B _ it gh (Fz.Le.refl B) (hc.push _ _)
  ·have it:qX c.g B s.heap.objs.size (x.cps.toList.map fun n=>V.str ⟨#[n]⟩) 0 (s.heap.push {cls:= .type (strIterType x),data:= .fields #[.str x t,.int 0 0]}) [s.heap.objs.size] (SignAt x) (fun i h=>h.IsStrIter s.heap.objs.size "str_ascii_iterator" x t i):=by
    refine⟨fun A hA=>by simpa using Walks.strAscii (prog:=c.g.prog) (w:=c.g.w) hA s.heap.objs.size x t,fun i v e=>?_,⟨_,Heap.get?_push_size _ rfl,by simp[strIterType,ha],rfl⟩,fun b hb=> .inl (by simpa using hb),fun i h st=>?_⟩
    ·refine cI e fun n z0=>?_
     clear e
     refine aH z0 fun t h1 z4=>?_
     clear z0
     subst z4
     exact⟨.str ⟨#[n]⟩,by simp[h1],.str⟩
    ·refine dT st fun o ho hcl hda=>?_
     clear st
     exact⟨o,_,ho,hcl,by decide,fun v q=>by rw[hda] at q;cases q⟩
   exact h _ _ _ _ B _ it gh (Fz.Le.refl B) (hc.push _ _)
 | @rng a b d n h1 h2=>
  cases hr with
  | @rng r a b c' t u v e=>
  refine wpAny_pyIter_range (hc.base.frz _ _ e) h1 ?_
  have it:qX c.g B s.heap.objs.size ((List.range n).map fun(i:Nat)=>V.int (a+(i:Int)*d)) 0 (s.heap.push {cls:= .type "range_iterator",data:= .fields #[rawInt a,rawInt (Builtin.Range.rangeSize a b d),rawInt d]}) [s.heap.objs.size]
    (fun i v=>i<n∧∃t,v= .int (a+i*d) t) (fun i h=>IsRangeIter h s.heap.objs.size (a+(i:Nat)*d) ((n:Int)-(i:Nat)) d):=by
   refine⟨fun A hA=>?_,fun i v e=>?_,?_,fun b hb=> .inl (by simpa using hb),fun i h st=>⟨_,_,st,rfl,by decide,fun v q=>by cases q⟩⟩
   ·have w:=Walks.range (prog:=c.g.prog) (w:=c.g.w) hA s.heap.objs.size a d n
    simp only[List.length_map,List.length_range]
    exact⟨w.sub,w.frame,fun i s Q E hi st hQ=>w.item i s Q E hi st fun v h' tk p=>hQ v h' tk ⟨hi,p⟩,w.done,w.self⟩
   ·refine aG e fun hi z0=>?_
    clear e
    refine cI z0 fun t z2=>?_
    clear z0
    subst z2
    exact⟨.int (a+i*d),by simp[hi],.int⟩
   ·show IsRangeIter _ _ (a+((0:Nat):Int)*d) ((n:Int)-((0:Nat):Int)) d
    have e1:a+((0:Nat):Int)*d=a:=by simp
    have e2:(n:Int)-((0:Nat):Int)=Builtin.Range.rangeSize a b d:=by rw[h2];simp
    rw[e1,e2]
    exact Heap.get?_push_size _ rfl
  exact h _ _ _ _ B _ it gh (Fz.Le.refl B) (hc.push _ _)
noncomputable def I5(Q:List V→St→Prop)(x:V)(σ:St):Prop:=∃items,sW x items∧Q items σ
theorem bH{e:Expr}{Q:List V→St→Prop}(h:WE c e σ X (I5 Q)):mH c e σ X Q:=by
 intro B s Φ Ψ hc hΦ hΨ
 refine h B s _ _ hc (fun v x σ₁ B₁ s₁ hq hr hle hc₁=>?_) hΨ
 refine cI hq fun items z0=>?_
 clear hq
 refine aG z0 fun hs hq=>?_
 clear z0
 exact yU hs hr hc₁ fun I fp P Sx B' s' it gh hle' hc' =>hΦ I items fp P Sx σ₁ B' s' hq it gh (hle.trans hle') hc'
end
noncomputable def Cx.pin(c:Cx)(ps:List (Addr×Obj)):Cx:={c with pins:=ps++c.pins}
section
variable {c:Cx}{σ:St}{X:Value→St→Prop}{B:Fz}{s:Shared}
theorem Conc.pinOn{I:Addr}{o:Obj}(hc:Conc c σ B s)(hg:aP c σ B I)(ho:s.heap.get? I=some o):Conc (c.pin [(I,o)]) σ B s:=by
 have hm:bF (c.pin [(I,o)]) σ=bF c σ:=rfl
 refine⟨⟨{hc.base.ok with flive:= ?_},hc.base.rest,hc.base.size,hc.base.stay,hc.base.TB,hc.base.frz,hc.base.Bold,hc.base.Bnew,?_,?_,hc.base.nod,?_⟩,hc.names,?_,hc.own⟩
 ·exact dT hc.base.ok.flive fun L h1 h2 h3=>⟨L,h1,h2,h3.imp id fun⟨o',h4,h5⟩=>⟨o',List.mem_cons_of_mem _ h4,h5⟩⟩
 ·intro p hp
  rcases List.mem_cons.mp hp with rfl|hp
  ·exact .of_get ho
  ·exact hc.base.pins p hp
 ·intro p hp
  rcases List.mem_cons.mp hp with rfl|hp
  ·exact⟨hg.2.2.1,.inr hg.1⟩
  ·exact hc.base.pfree p hp
 ·intro a ha
  refine m7 (hc.base.mt a ha) fun h1 h2 h3 h4=>?_
  refine⟨h1,h2,fun p hp=>?_,h4⟩
  rcases List.mem_cons.mp hp with rfl|hp
  ·exact fun(e:I=a)=>hg.2.1 (by rw[e];exact ha)
  ·exact h3 p hp
 ·refine aH hc.vars fun m hn hv=>?_
  refine⟨m,hn,fun p hp=>?_⟩
  have:=hv p hp
  cases hsl:p.2 with
  |loc o=>rw[hsl] at this;exact this
  |cel o=>rw[hsl] at this;exact this
  |glob=>rw[hsl] at this;exact this
  |fre Y=>
   rw[hsl] at this
   refine aG this fun k z0=>?_
   clear this
   refine gY.e z0 fun a o' v e h1 h2 h3=>?_
   clear z0
   exact⟨k,a,o',v,e,h1.imp (List.mem_cons_of_mem _) id,h2,h3⟩
theorem Conc.pinOff{I:Addr}{o:Obj}(hok:vW c)(hc:Conc (c.pin [(I,o)]) σ B s)(hcl:∀v,o.data≠ .cell v):Conc c σ B s:=by
 refine⟨⟨hok,hc.base.rest,hc.base.size,hc.base.stay,hc.base.TB,hc.base.frz,hc.base.Bold,hc.base.Bnew,fun p hp=>hc.base.pins p (List.mem_cons_of_mem _ hp),fun p hp=>hc.base.pfree p (List.mem_cons_of_mem _ hp),hc.base.nod,fun a ha=>?_⟩,hc.names,?_,hc.own⟩
 ·exact m7 (hc.base.mt a ha) fun h1 h2 h3 h4=>⟨h1,h2,fun p hp=>h3 p (List.mem_cons_of_mem _ hp),h4⟩
 ·refine aH hc.vars fun m hn hv=>?_
  refine⟨m,hn,fun p hp=>?_⟩
  have:=hv p hp
  cases hsl:p.2 with
  |loc o=>rw[hsl] at this;exact this
  |cel o=>rw[hsl] at this;exact this
  |glob=>rw[hsl] at this;exact this
  |fre Y=>
   rw[hsl] at this
   refine aG this fun k z0=>?_
   clear this
   refine gY.e z0 fun a o' v e h1 h2 h3=>?_
   clear z0
   refine⟨k,a,o',v,e,?_,h2,h3⟩
   rcases h1 with h1|h1
   ·rcases List.mem_cons.mp h1 with q|h1
    ·cases q;exact absurd h2 (hcl _)
    ·exact .inl h1
   ·exact .inr h1
theorem aP.pinOff{I a:Addr}{o:Obj}(g:aP (c.pin [(I,o)]) σ B a):aP c σ B a:=⟨g.1,g.2.1,g.2.2.1,fun p hp=>g.2.2.2 p (List.mem_cons_of_mem _ hp)⟩
theorem zY.pinOff{I:Addr}{o:Obj}{e:Value}(hok:vW c)(hcl:∀v,o.data≠ .cell v)(h:zY (c.pin [(I,o)]) X e s):zY c X e s:=by
 refine jO.e h fun σ B ea cls hx z0 hc z1=>?_
 clear h
 subst z0
 refine aG z1 fun g z3=>?_
 clear z1
 refine cW.e z3 fun oe vs h1 h2 h3 h4=>?_
 clear z3
 exact⟨σ,B,ea,cls,hx,rfl,hc.pinOff hok hcl,g.pinOff,oe,vs,h1,h2,h3,h4.imp id fun h' =>(by refine y8.e h' fun T oT ts a b gT r1 r2 r3=>?_;clear h';exact⟨T,oT,ts,a,b,gT.pinOff,r1,r2,r3⟩)⟩
theorem zY.back{e:Value}{Ψ:Value→Shared→Prop}(hfe:c.env.frame=c.fenv.frame)(h:zY c X e s)(hΨ:jC c X Ψ):
  notedBy (model c.g.prog c.g.w) c.A c.env (fun e s' =>cameBackBy (model c.g.prog c.g.w) c.A c.env Ψ e s') e s:=by
 refine jO.e h fun σ B ea cls hx z0 hc hF=>?_
 clear h
 subst z0
 refine aH hc.base.ok.flive fun L hL _=>fB hc hfe hL hF fun s' hc' hN=>aG (id hN) fun ge z0=>lJ.e z0 fun oe vs T oT ts e1 e2 e3 e4 e5 e6 e7 e8 e9=>?_
 clear z0
 show wpAny _ _ (field (.ref ea) 1>>= _) _ _ s'
 refine wpAny_bind (wpAny_field e1 e3 e4 ?_)
 rw[if_neg (by simp)]
 refine dB hc' hN c.env.frame fun s'' hc'' hN' =>?_
 rw[hfe,hL] at hN'
 exact hΨ _ s'' ⟨σ,B,ea,cls,hx,rfl,hc'',hN'.fly hL⟩
noncomputable abbrev BE(c:Cx)(target:Expr)(x:V)(σ:St)(X:Value→St→Prop)(Q:St→Prop):Prop:=WF c (c5 c.g) Hf x (fun v=>assign target c.env v) σ X (fun _ σ' =>Q σ')
theorem CU{n:Str}{p:Pos}{x:V}{Q:St→Prop}{env' :List (Str×Slot)}(hp:mP n x σ.env env')(h:Q ⟨env',σ.own⟩):BE c (.Name n p) x σ X Q:=
 fun B s v Φ Ψ hr hc hΦ hΨ=>wpAny_assign_Name (hc.putE hp hr fun s' hc' =>hΦ () () _ B s' h trivial (Fz.Le.refl B) hc')
theorem bE{n:Str}{p:Pos}{x:V}{Q:St→Prop}{env:List (Str×Slot)}{own:List (Addr×OV)}(k:Nat)(hp:DD k env=some n)(h:Q ⟨BZ k x env,own⟩):BE c (.Name n p) x ⟨env,own⟩ X Q:=CU (aR k hp) h
inductive fE:List Expr→List Str→Prop
 |nil:fE [] []
 |cons {n p l ns}:fE l ns→fE (.Name n p::l) (n::ns)
inductive o9:List Str→List V→List (Str×Slot)→List (Str×Slot)→Prop
 |nil {e}:o9 [] [] e e
 |cons {n x ns xs e e' e''}:mP n x e e'→o9 ns xs e' e''→o9 (n::ns) (x::xs) e e''
theorem fE.each{env:Env}{l:List Expr}{ns:List Str}(h:fE l ns):(assignEach l env).length=ns.length∧(assignEach l env).findIdx? (·.1)=none:=by
 induction h with
 |nil=>exact⟨rfl,rfl⟩
 | @cons n p l ns _ ih=>
  have e:assignEach (.Name n p::l) env=(false,assign (.Name n p) env)::assignEach l env:=rfl
  rw[e]
  exact⟨congrArg Nat.succ ih.1,by rw[List.findIdx?_cons,ih.2];rfl⟩
theorem o9.run{ns:List Str}{f:Str→Value→Sem Unit}(hf:∀n v (s:Shared) (Φ:Unit→Shared→Prop) Ψ,wpAny (model c.g.prog c.g.w) c.A (storeName c.env n v) Φ Ψ s→wpAny (model c.g.prog c.g.w) c.A (f n v) Φ Ψ s)
  {xs:List V} {e e' :List (Str×Slot)} (h:o9 ns xs e e'):∀{vs:List Value} {s:Shared} {own:List (Addr×OV)} {Φ:Unit→Shared→Prop} {Ψ:Value→Shared→Prop},Reps c.g B xs vs→Conc c ⟨e,own⟩ B s→(∀s',Conc c ⟨e',own⟩ B s'→Φ () s')→
   wpAny (model c.g.prog c.g.w) c.A (assignInOrder (ns.map f) vs) Φ Ψ s:=by
 induction h with
 |nil=>intro vs s own Φ Ψ hr hc hΦ;cases hr;exact wpAny_pure (hΦ s hc)
 |cons hp _ ih=>
  intro vs s own Φ Ψ hr hc hΦ
  cases hr with
  |cons hr hrs=>exact wpAny_bind (wpAny_holding (hf _ _ _ _ _ (hc.putE hp hr fun s' hc' =>ih hrs hc' hΦ)))
theorem sR{l:List Expr}{ns:List Str}(hn:fE l ns){xs:List V}{e e' :List (Str×Slot)}(h:o9 ns xs e e'):∀{vs:List Value} {s:Shared} {own:List (Addr×OV)} {Φ:Unit→Shared→Prop} {Ψ:Value→Shared→Prop},Reps c.g B xs vs→Conc c ⟨e,own⟩ B s→(∀s',Conc c ⟨e',own⟩ B s'→Φ () s')→
   wpAny (model c.g.prog c.g.w) c.A (assignInOrder ((assignEach l c.env).map (·.2)) vs) Φ Ψ s:=by
 induction hn generalizing xs e e' with
 |nil=>intro vs s own Φ Ψ hr hc hΦ;cases h;cases hr;exact wpAny_pure (hΦ s hc)
 |cons _ ih=>
  intro vs s own Φ Ψ hr hc hΦ
  cases h with
  |cons hp hps=>
   cases hr with
   |cons hr hrs=>exact wpAny_bind (wpAny_holding (wpAny_assign_Name (hc.putE hp hr fun s' hc' =>ih hps hrs hc' hΦ)))
theorem gW{elts:List Expr}{ns:List Str}{k:Nat}{p:Pos}{xs:List V}{Q:St→Prop}{env' :List (Str×Slot)}(hn:fE elts ns)(hp:o9 ns xs σ.env env')(h:Q ⟨env',σ.own⟩)(hl:autoParam (ns.length=xs.length) c8):BE c (.Tuple elts k p) (.tup xs) σ X Q:=by
 intro B s v Φ Ψ hr hc hΦ hΨ
 obtain⟨a,o,vs,n,h1,h2,h3,h4⟩:=hr.inv
 have ht:s.heap.IsTuple a vs:=⟨o,hc.base.frz _ _ h1,h2,n,h3⟩
 refine wpAny_assign_Tuple hc.base.ok.handled ht (by rw[hn.each.1,hl,←h4.length,Array.length_toList]) hn.each.2 fun h' hk=>?_
 have hc' :Conc c σ B {s with heap:=h'}:=hc.kept (tk:=s.toks) fun a o e g=> .of_get (hk a o (Nat.ne_of_lt (Heap.lt_size e)) e)
 exact sR hn hp h4 hc' fun s' hc'' =>hΦ () () _ B s' h trivial (Fz.Le.refl B) hc''
end
section
variable {c:Cx}{σ:St}{X:Value→St→Prop}{Q:Fl→St→Prop}
noncomputable def I1(c:Cx)(X:Value→St→Prop)(Q:Fl→St→Prop)(t:Expr)(x:V)(σ:St):Prop:=BE c t x σ X (I4 Q)
theorem mZ{elts:List Expr}{k:Nat}{tp p:Pos}{value:Expr}(h:WE c value σ X (I1 c X Q (.Tuple elts k tp)))
  (hs:autoParam (swapsWithSole [.Tuple elts k tp] value p.line c.env=pure false) c8) (hw:autoParam (swappedStores [.Tuple elts k tp] value c.env=pure none) c8):W1 c (.Assign [.Tuple elts k tp] value p) σ X Q:=by
 intro B s Φ Ψ hc hΦ hΨ
 refine Assign_Tuple (h B s _ _ hc (fun v x σ₁ B₁ s₁ hq hr hle hc₁=>?_) hΨ) hs hw
 exact hq B₁ s₁ v _ _ hr hc₁ (fun _ _ σ₂ B₂ s₂ hq₂ _ hle₂ hc₂=>hΦ _ _ σ₂ B₂ s₂ hq₂ .next (hle.trans hle₂) hc₂) hΨ
theorem DJ{c:Prop}[Decidable c]{α:Type}{a b x y:α}(h1:c→a=x∨a=y)(h2:¬c→b=x∨b=y):ite c a b=x∨ite c a b=y:=by
 by_cases h:c
 ·rw[if_pos h];exact h1 h
 ·rw[if_neg h];exact h2 h
theorem DC{f:Expr→Option Str}{b:Str→Pos→Bool}(hf:∀n p,f (.Name n p)=if b n p=true then some n else none){l:List Expr}{ns:List Str}(hn:fE l ns):(l.filterMap f).length=l.length→l.filterMap f=ns:=by
 induction hn with
 |nil=>exact fun _=>rfl
 | @cons n p l ns _ ih=>
  intro h
  cases hc:b n p with
  |true=>
   have e:f (.Name n p)=some n:=(hf n p).trans (if_pos hc)
   rw[List.filterMap_cons_some e] at h ⊢
   rw[ih (Nat.succ.inj h)]
  |false=>
   have e:f (.Name n p)=none:=(hf n p).trans (if_neg (by rw[hc];decide))
   rw[List.filterMap_cons_none e] at h
   exact absurd (List.length_filterMap_le f l) (by rw[h];exact Nat.not_succ_le_self _)
theorem H4{a b:Nat}{y:Bool}(h:¬((a != b||y)=true)):a=b:=by
 simp only[Bool.or_eq_true,bne_iff_ne,ne_eq,not_or,Decidable.not_not] at h
 exact h.1
theorem uE{env:Env}{elts:List Expr}{ns:List Str}{k k' :Nat}{tp vp:Pos}{vs:List Expr}(hn:fE elts ns)(hv:vs.all (constantsAlone 8)=false):
  swappedStores [.Tuple elts k tp] (.Tuple vs k' vp) env=pure none∨swappedStores [.Tuple elts k tp] (.Tuple vs k' vp) env=pure (some ns):=by
 delta swappedStores
 dsimp only
 refine DJ (fun _=> .inl rfl) fun _=>DJ (fun _=> .inl rfl) fun _=>DJ (fun _=> .inl rfl) fun h=>DJ (fun _=> .inl rfl) fun _=>?_
 rw[hv]
 refine .inr (congrArg (fun x=>Pure.pure (some x)) ?_)
 exact DC (fun _ _=>rfl) hn (H4 h)
theorem Reps.reverse{g:Gx}{B:Fz}{l vs}(r:Reps g B l vs):Reps g B l.reverse vs.reverse:=
 r.ind (P:=fun l vs=>Reps g B l.reverse vs.reverse) .nil fun a _ b=>by rw[List.reverse_cons,List.reverse_cons];exact b.append (.cons a .nil)
inductive Gp(ns:List Str)(Q:Fl→St→Prop)(x:V)(σ:St):Prop
 |mk (xs:List V) (env' :List (Str×Slot)) (hx:x= .tup xs) (h1:o9 ns xs σ.env env') (h2:o9 ns.reverse xs.reverse σ.env env') (h:Q .next ⟨env',σ.own⟩) (hl:ns.length=xs.length):Gp ns Q x σ
theorem iD{elts:List Expr}{ns:List Str}{k k' :Nat}{tp p vp:Pos}{vs:List Expr}(hn:fE elts ns)
  (h:WE c (.Tuple vs k' vp) σ X (Gp ns Q))
  (hs:autoParam (swapsWithSole [.Tuple elts k tp] (.Tuple vs k' vp) p.line c.env=pure false) c8) (hv:autoParam (vs.all (constantsAlone 8)=false) c8):W1 c (.Assign [.Tuple elts k tp] (.Tuple vs k' vp) p) σ X Q:=by
 intro B s Φ Ψ hc hΦ hΨ
 rcases uE (env:=c.env) (k:=k) (k' :=k') (tp:=tp) (vp:=vp) hn hv with hw|hw
 ·refine Assign_Tuple (h B s _ _ hc (fun v x σ₁ B₁ s₁ hq hr hle hc₁=>?_) hΨ) hs hw
  obtain⟨xs,env',rfl,h1,h2,hq,hl⟩:=hq
  exact gW (X:=X) (Q:=fun σ' =>Q .next σ') hn h1 hq hl B₁ s₁ v _ _ hr hc₁ (fun _ _ σ₂ B₂ s₂ hq₂ _ hle₂ hc₂=>hΦ _ _ σ₂ B₂ s₂ hq₂ .next (hle.trans hle₂) hc₂) hΨ
 ·refine Assign_Tuple_swapped (h B s _ _ hc (fun v x σ₁ B₁ s₁ hq hr hle hc₁=>?_) hΨ) hs hw
  obtain⟨xs,env',rfl,h1,h2,hq,hl⟩:=hq
  obtain⟨a,o,vs,n,e1,e2,e3,e4⟩:=hr.inv
  have ht:s₁.heap.IsTuple a vs:=⟨o,hc₁.base.frz _ _ e1,e2,n,e3⟩
  have hsz:ns.length=vs.size:=by rw[hl,←e4.length,Array.length_toList]
  rw[hsz]
  refine wpAny_unpackItems_tuple hc₁.base.ok.handled ht fun h' hk=>?_
  have hc' :Conc c σ₁ B₁ {s₁ with heap:=h'}:=hc₁.kept (tk:=s₁.toks) fun a o e g=> .of_get (hk a o (Nat.ne_of_lt (Heap.lt_size e)) e)
  exact h2.run (f:=fun n=>bindName c.env n) (fun n v s Φ Ψ h=>wpAny_bindName h) e4.reverse hc' fun s' hc'' =>hΦ _ _ _ B₁ s' hq .next hle hc''
end
section
variable {c:Cx}{σ:St}{X:Value→St→Prop}
theorem lB{g:Gx}{B B' :Fz}{I:Addr}{items:List V}{i:Nat}{h h' :Heap}{fp:List Addr}{P:Nat→Value→Prop}{Sx:Nat→Heap→Prop}{A:Around}(hA:A.handled=none)(it:qX g B I items i h fp P Sx)(hB:B.Le B')
  (hI:∀o,h.get? I=some o→h'.get? I=some o) (hf:∀a o,B a=some o→h'.get? a=some o) (hf0:∀a o,B a=some o→h.get? a=some o):qX g B' I items i h' fp P Sx where
 walks:=it.walks
 item:=fun i v p=>by obtain⟨x,e,r⟩:=it.item i v p;exact⟨x,e,r.mono hB⟩
 st:=(it.walks A hA).frame i h h' it.st fun b hb o e=>by
  rcases it.fp b hb with rfl|⟨o',e'⟩
  ·exact hI o e
  ·have:=hf0 b o' e'
   rw[e] at this;cases this
   exact hf b o e'
 fp:=fun b hb=>(it.fp b hb).imp id fun⟨o,e⟩=>⟨o,hB b o e⟩
 cls:=it.cls
theorem oS{α:Type}{l:List α}{i:Nat}{x:α}(h:l[i]? =some x):l.drop i=x::l.drop (i+1):=by
 obtain⟨hi,e⟩:=List.getElem?_eq_some_iff.mp h
 rw[←e];exact List.drop_eq_getElem_cons hi
theorem tP{A:Around}{M:Model}{target:Expr}{I:Addr}{v:Value}{s:Shared}{o:Obj}{n:String}{Φ:Unit→Shared→Prop}{Ψ:Value→Shared→Prop}(e:s.heap.get? I=some o)(e2:o.cls= .type n)(e3:l3.contains n=false)(h:Φ () s):
  wpAny M A (letOwnedTupleGo target (.ref I) v) Φ Ψ s:=by
 have hc: ["enumerate", "zip", "dict_itemiterator", "dict_reverseitemiterator", "odict_iterator", "itertools.zip_longest", "itertools.pairwise"].contains n=false:=by
  simp only[l3,List.contains_cons,List.contains_nil,Bool.or_eq_false_iff] at e3 ⊢
  simp[e3]
 obtain⟨cl,d,dt,sl⟩:=o
 cases(show cl=_ from e2)
 have go:wpAny M A (letOwnedTupleGo (.Tuple [] 0 default) (.ref I) v) Φ Ψ s:=by
  cases v<;>first|exact wpAny_pure h|skip
  refine wpAny_bind (wpAny_load e ?_)
  cases dt<;>first|exact wpAny_pure h|skip
  dsimp only
  rw[hc]
  exact wpAny_pure h
 cases target<;>first|exact wpAny_pure h|exact go
section
variable (prog:Program)(w:World)(A:Around)
noncomputable def wX(env:Env)(R:Result→Shared→Prop):Value→Shared→Prop:=notedBy (model prog w) A env fun e s' =>R (.error e) s'
noncomputable def tQ(I:Nat→Shared→Prop)(n:Nat)(s:Shared):Prop:=∃m,m<n∧I m s
noncomputable def Ha(R:Result→Shared→Prop)(I:Nat→Shared→Prop)(n:Nat):Flow→Shared→Prop:=fun f s₃=>match f with
      | .next| .cont=>tQ I n s₃
      | .brk=>R (.ok .next) s₃
      | .ret v=>R (.ok (.ret v)) s₃
noncomputable def H9(target:Expr)(it:Value)(body orelse:List Stmt)(env:Env)(R:Result→Shared→Prop)(I:Nat→Shared→Prop)(n:Nat):Option Value→Shared→Prop:=fun r s₁=>match r with
   |none=>wpAny (model prog w) A (execs orelse env) (fun f s₃=>R (.ok f) s₃) (wX prog w A env R) s₁
   |some v=>wpAny (model prog w) A (letOwnedTupleGo target it v) (fun _ s₁' =>wpAny (model prog w) A (assign target env v) (fun _ s₂=>wpAny (model prog w) A (execs body env) (Ha R I n) (wX prog w A env R) s₂) (wX prog w A env R) s₁') (wX prog w A env R) s₁
end
theorem DM{prog:Program}{w:World}{A:Around}{s:Shared}{R:Result→Shared→Prop}{target:Expr}{it:Value}{body orelse:List Stmt}{env:Env}(I:Nat→Shared→Prop)
  (turn:∀n s,I n s→wpAny (model prog w) A (pyNext it) (H9 prog w A target it body orelse env R I n) (wX prog w A env R) s) (n:Nat) (h:I n s):codeAny (model prog w) A (.forLoop target it body orelse env) R s:=
 codeAny_forLoop_any I turn n h
noncomputable def G7(c:Cx)(B₁:Fz)(Inv:List V→St→Prop)(I:Addr)(items:List V)(fp:List Addr)(P:Nat→Value→Prop)(Sx:Nat→Heap→Prop)(k:Nat)(s' :Shared):Prop:=
 E3x7 (fun i σ' B' =>k=items.length+1-i) (fun i σ' B' =>i≤items.length) (fun i σ' B' =>Inv (items.drop i) σ') (fun i σ' B' =>qX c.g B' I items i s'.heap fp P Sx) (fun i σ' B' =>aP c σ' B' I) (fun i σ' B' =>B₁.Le B') (fun i σ' B' =>Conc c σ' B' s')
noncomputable def Eo(c:Cx)(X:Value→St→Prop)(Q:Fl→St→Prop)(b:List Stmt)(σ:St):Prop:=WX c b σ X Q
theorem FR{target iter:Expr}{body orelse:List Stmt}{p:Pos}{Q:Fl→St→Prop}(Inv:List V→St→Prop)
  (h:mH c iter σ X Inv)
  (turn:∀J:List V→St→Prop,(∀r σ,Inv r σ→J r σ)→∀x r σ₁,Inv (x::r) σ₁→∀ps,BE (c.pin ps) target x σ₁ X (Eo (c.pin ps) X (LQ (J r) Q) body))
  (done:∀σ₁,Inv [] σ₁→WX c orelse σ₁ X Q)
  (hs:autoParam (foldedSetIterable iter c.env=pure) c8):W1 c (.For target iter body orelse p) σ X Q:=by
 intro B s Φ Ψ hc hΦ hΨ
 refine wpAny_For (h B s _ _ hc (fun I items fp P Sx σ₁ B₁ s₁ hinv it gI hle hc₁=>?_) hΨ) (congrFun hs)
 have hok:=hc.base.ok
 have hfe:=hok.fsame
 have back:∀e s',zY c X e s'→notedBy (model c.g.prog c.g.w) c.A c.env (fun e s' =>cameBackBy (model c.g.prog c.g.w) c.A c.env Ψ e s') e s' :=fun e s' hx=>hx.back hfe hΨ
 refine DM (G7 c B₁ Inv I items fp P Sx) ?_ (items.length+1) ⟨0,σ₁,B₁,rfl,Nat.zero_le _,by simpa using hinv,it,gI,Fz.Le.refl _,hc₁⟩
 intro k s' z0
 refine E3x7.e z0 fun i σ' B' z1 hi hinv' it' gI' hle' hc' =>?_
 clear z0
 subst z1
 have hA:c.A.handled=none:=hc'.base.ok.handled
 by_cases hlt:i<items.length
 ·refine(it'.walks c.A hA).item i s' _ _ hlt it'.st fun v h' tk hP hst hk=>?_
  have hc₂:Conc c σ' B' {s' with heap:=h',toks:=tk}:=hc'.kept fun a o e g=> .of_get (hk a o (fun q=>g (by simp only[List.mem_cons,List.not_mem_nil,or_false] at q;rw[q];exact gI')) e)
  refine aH (it'.item i v hP) fun x ex rx=>cW.e (it'.cls (i+1) h' hst) fun oI nI eI eI2 eI3 hcl=>?_
  have hcp:=hc₂.pinOn gI' eI
  have backp:∀e s',zY (c.pin [(I,oI)]) X e s'→notedBy (model c.g.prog c.g.w) c.A c.env (fun e s' =>cameBackBy (model c.g.prog c.g.w) c.A c.env Ψ e s') e s' :=fun e s' hx=>back e s' (hx.pinOff hok hcl)
  rw[oS ex] at hinv'
  refine tP eI eI2 eI3 (turn Inv (fun _ _ h=>h) x (items.drop (i+1)) σ' hinv' [(I,oI)] B' _ v _ _ rx hcp (fun _ _ σ₂ B₂ s₂ hq₂ _ hle₂ hc₃=>?_) backp)
  refine hq₂ B₂ s₂ _ _ hc₃ (fun f fl σ₃ B₃ s₃ hq₃ hr₃ hle₃ hc₄=>?_) backp
  have hc₅:=hc₄.pinOff hok hcl
  have hB' :=hle₂.trans hle₃
  have go:Inv (items.drop (i+1)) σ₃→tQ (G7 c B₁ Inv I items fp P Sx) (items.length+1-i) s₃:=fun hi' =>by
   refine⟨items.length+1-(i+1),by exact aI [_,_,_,_] [] (.Eq (.a .w (.a .y (.n 1))) (.a .z (.n 1))) 1 (.Eq (.a .x .y) (.a .z (.n 1))) (.negSucc 0) (.Lt .w .x) 0 qq (Nat.sub_add_cancel (aB [_,_] [] (.Lt .w .x) 1 (.Le (.a .w (.n 1)) (.a .x (.n 1))) 0 qq hlt)) (Nat.sub_add_cancel (aB [_,_,_] [] (.Eq (.a .y (.a .w (.n 1))) (.a .x (.n 1))) 1 (.Le .w (.a .x (.n 1))) 0 qq (Nat.sub_add_cancel (aB [_,_] [] (.Lt .w .x) 1 (.Le (.a .w (.n 1)) (.a .x (.n 1))) 0 qq hlt)))),i+1,σ₃,B₃,rfl,by exact aB [_,_] [] (.Lt .w .x) 1 (.Le (.a .w (.n 1)) .x) 0 qq hlt,hi',?_,?_,hle'.trans hB',hc₅⟩
   ·have it₂:qX c.g B' I items (i+1) h' fp P Sx:={it' with st:=hst}
    refine lB hA it₂ hB' (fun o e=>?_) (fun a o e=>hc₅.base.frz a o (hB' a o e)) hc₂.base.frz
    rw[eI] at e;cases e
    exact(hc₄.base.pins (I,oI) (List.mem_cons_self ..)).exact fun hF=>hc₂.frameGhost I hF gI'
   ·exact⟨gI'.1,fun hm=>(hc₄.base.mt I hm).2.2.1 (I,oI) (List.mem_cons_self ..) rfl,(hc₄.base.pfree (I,oI) (List.mem_cons_self ..)).1,gI'.2.2.2⟩
  cases hr₃ with
  |next=>exact go hq₃
  |cont=>exact go hq₃
  |brk=>exact hΦ _ _ σ₃ B₃ s₃ hq₃ .next ((hle.trans hle').trans hB') hc₅
  |ret r=>exact hΦ _ _ σ₃ B₃ s₃ hq₃ (.ret r) ((hle.trans hle').trans hB') hc₅
 ·have hin:i=items.length:=by exact Nat.le_antisymm (hi) (aB [_,_] [] (.Nlt .x .w) 1 (.Le .w .x) 0 qq hlt)
  subst hin
  refine(it'.walks c.A hA).done s' _ _ it'.st fun h' tk hk=>?_
  have hc₂:Conc c σ' B' {s' with heap:=h',toks:=tk}:=hc'.kept fun a o e g=> .of_get (hk a o (fun q=>g (by simp only[List.mem_cons,List.not_mem_nil,or_false] at q;rw[q];exact gI')) e)
  rw[List.drop_length] at hinv'
  refine done σ' hinv' B' _ _ _ hc₂ (fun f fl σ₃ B₃ s₃ hq hr hle₃ hc₃=>hΦ f fl σ₃ B₃ s₃ hq hr ((hle.trans hle').trans hle₃) hc₃) back
noncomputable def Hi(c:Cx)(X:Value→St→Prop)(Q:Fl→St→Prop)(I:St→Prop)(b o:List Stmt)(t:Bool)(σ:St):Prop:=if t=true then WX c b σ X (LQ I Q) else WX c o σ X Q
theorem Ab{test:Expr}{body orelse:List Stmt}{p:Pos}{Q:Fl→St→Prop}(Inv:Nat→St→Prop)(n:Nat)(h0:Inv n σ)
  (turn:∀J:Nat→St→Prop,(∀n σ,(∃m,m<n∧Inv m σ)→J n σ)→∀n σ₁,Inv n σ₁→WC c test σ₁ X (Hi c X Q (J n) body orelse)):W1 c (.While test body orelse p) σ X Q:=by
 intro B s Φ Ψ hc hΦ hΨ
 have hok:=hc.base.ok
 have back:∀e s',zY c X e s'→notedBy (model c.g.prog c.g.w) c.A c.env (fun e s' =>cameBackBy (model c.g.prog c.g.w) c.A c.env Ψ e s') e s' :=fun e s' hx=>hx.back hok.fsame hΨ
 refine wpAny_While (codeAny_whileLoop (fun k s' =>cJ (fun σ' B' =>Inv k σ') (fun σ' B' =>B.Le B') (fun σ' B' =>Conc c σ' B' s')) ?_ n ⟨σ,B,h0,Fz.Le.refl B,hc⟩)
 intro k s' z0
 refine cJ.e z0 fun σ' B' hinv hle hc' =>?_
 clear z0
 refine turn (fun n σ=>∃m,m<n∧Inv m σ) (fun _ _ h=>h) k σ' hinv B' s' _ _ hc' (fun b b' σ₂ B₂ s₂ hq hr hle₂ hc₂=>?_) back
 have hr:b=b' :=hr
 subst hr
 cases b with
 |false=>exact hq B₂ s₂ _ _ hc₂ (fun f fl σ₃ B₃ s₃ hq₃ hr₃ hle₃ hc₃=>hΦ f fl σ₃ B₃ s₃ hq₃ hr₃ ((hle.trans hle₂).trans hle₃) hc₃) back
 |true=>
  refine hq B₂ s₂ _ _ hc₂ (fun f fl σ₃ B₃ s₃ hq₃ hr₃ hle₃ hc₃=>?_) back
  have hl:=(hle.trans hle₂).trans hle₃
  cases hr₃ with
  |next=>refine aH hq₃ fun m h1 h2=>?_;clear hq₃;exact⟨m,h1,σ₃,B₃,h2,hl,hc₃⟩
  |cont=>refine aH hq₃ fun m h1 h2=>?_;clear hq₃;exact⟨m,h1,σ₃,B₃,h2,hl,hc₃⟩
  |brk=>exact hΦ _ _ σ₃ B₃ s₃ hq₃ .next hl hc₃
  |ret r=>exact hΦ _ _ σ₃ B₃ s₃ hq₃ (.ret r) hl hc₃
theorem iJ{target iter:Expr}{body orelse:List Stmt}{p:Pos}{rest:List Stmt}{Q:Fl→St→Prop}(Inv:List V→St→Prop)
  (h:mH c iter σ X Inv)
  (turn:∀J:List V→St→Prop,(∀r σ,Inv r σ→J r σ)→∀x r σ₁,Inv (x::r) σ₁→∀ps,BE (c.pin ps) target x σ₁ X (Eo (c.pin ps) X (LQ (J r) (XQ c rest X Q)) body))
  (done:∀σ₁,Inv [] σ₁→WX c orelse σ₁ X (XQ c rest X Q))
  (hs:autoParam (foldedSetIterable iter c.env=pure) c8):WX c (.For target iter body orelse p::rest) σ X Q:=aU (FR Inv h turn done hs)
theorem mS{test:Expr}{body orelse:List Stmt}{p:Pos}{rest:List Stmt}{Q:Fl→St→Prop}(Inv:Nat→St→Prop)(n:Nat)(h0:Inv n σ)
  (turn:∀J:Nat→St→Prop,(∀n σ,(∃m,m<n∧Inv m σ)→J n σ)→∀n σ₁,Inv n σ₁→WC c test σ₁ X (Hi c X (XQ c rest X Q) (J n) body orelse)):WX c (.While test body orelse p::rest) σ X Q:=aU (Ab Inv n h0 turn)
end
inductive sY(x:Str)(X:V):List (Str×Slot)→Prop
 |cel {r}:sY x X ((x,.cel (some X))::r)
 |fre {r}:sY x X ((x,.fre X)::r)
 |skip {p r}:sY x X r→sY x X (p::r)
theorem sY.mem{x:Str}{X:V}{l:List (Str×Slot)}(h:sY x X l):(x,Slot.cel (some X))∈l∨(x,Slot.fre X)∈l:=by
 induction h with
 |cel=>exact .inl (List.mem_cons_self ..)
 |fre=>exact .inr (List.mem_cons_self ..)
 |skip _ ih=>exact ih.imp (List.mem_cons_of_mem _) (List.mem_cons_of_mem _)
inductive c0(outer:List (Str×Slot)):List (Str×NameKind)→List (Str×Slot)→Prop
 |nil:c0 outer [] []
 |loc {x l e}:c0 outer l e→c0 outer ((x,.local)::l) ((x,.loc none)::e)
 |glob {x l e}:c0 outer l e→c0 outer ((x,.globalImplicit)::l) ((x,.glob)::e)
 |fre {x X l e}:sY x X outer→c0 outer l e→c0 outer ((x,.free)::l) ((x,.fre X)::e)
theorem c0.keys{outer:List (Str×Slot)}{l:List (Str×NameKind)}{e:List (Str×Slot)}(h:c0 outer l e):e.map (·.1)=l.map (·.1):=by
 induction h<;>simp_all
theorem c0.mem{outer:List (Str×Slot)}{l:List (Str×NameKind)}{e:List (Str×Slot)}(h:c0 outer l e):∀p∈e,(p.2= .loc none∧(p.1,NameKind.local)∈l)∨(p.2= .glob∧(p.1,NameKind.globalImplicit)∈l)∨∃X,p.2= .fre X∧(p.1,NameKind.free)∈l∧sY p.1 X outer:=by
 induction h with
 |nil=>intro p hp;cases hp
 |loc _ ih=>
  intro p hp
  rcases List.mem_cons.mp hp with rfl|hp
  ·exact .inl ⟨rfl,List.mem_cons_self ..⟩
  ·exact(ih p hp).imp (And.imp id (List.mem_cons_of_mem _)) (Or.imp (And.imp id (List.mem_cons_of_mem _)) fun⟨X,a,b,c⟩=>⟨X,a,List.mem_cons_of_mem _ b,c⟩)
 |glob _ ih=>
  intro p hp
  rcases List.mem_cons.mp hp with rfl|hp
  ·exact .inr (.inl ⟨rfl,List.mem_cons_self ..⟩)
  ·exact(ih p hp).imp (And.imp id (List.mem_cons_of_mem _)) (Or.imp (And.imp id (List.mem_cons_of_mem _)) fun⟨X,a,b,c⟩=>⟨X,a,List.mem_cons_of_mem _ b,c⟩)
 |fre hg _ ih=>
  intro p hp
  rcases List.mem_cons.mp hp with rfl|hp
  ·exact .inr (.inr ⟨_,rfl,List.mem_cons_self ..,hg⟩)
  ·exact(ih p hp).imp (And.imp id (List.mem_cons_of_mem _)) (Or.imp (And.imp id (List.mem_cons_of_mem _)) fun⟨X,a,b,c⟩=>⟨X,a,List.mem_cons_of_mem _ b,c⟩)
theorem c0.free{outer:List (Str×Slot)}{l:List (Str×NameKind)}{e:List (Str×Slot)}(h:c0 outer l e):∀p∈l,p.2= .free→∃X,sY p.1 X outer:=by
 induction h with
 |nil=>intro p hp;cases hp
 |loc _ ih=>intro p hp hk;rcases List.mem_cons.mp hp with rfl|hp;cases hk;exact ih p hp hk
 |glob _ ih=>intro p hp hk;rcases List.mem_cons.mp hp with rfl|hp;cases hk;exact ih p hp hk
 |fre hg _ ih=>intro p hp hk;rcases List.mem_cons.mp hp with rfl|hp;exact⟨_,hg⟩;exact ih p hp hk
theorem c0.noCell{outer:List (Str×Slot)}{l:List (Str×NameKind)}{e:List (Str×Slot)}(h:c0 outer l e):∀p∈l,p.2≠ .cell:=by
 induction h with
 |nil=>intro p hp;cases hp
 |loc _ ih=>intro p hp;rcases List.mem_cons.mp hp with rfl|hp;(intro q;cases q);exact ih p hp
 |glob _ ih=>intro p hp;rcases List.mem_cons.mp hp with rfl|hp;(intro q;cases q);exact ih p hp
 |fre hg _ ih=>intro p hp;rcases List.mem_cons.mp hp with rfl|hp;(intro q;cases q);exact ih p hp
theorem c0.cels{outer:List (Str×Slot)}{l:List (Str×NameKind)}{e:List (Str×Slot)}(env:Env)(h:c0 outer l e):Mine.cels env e=[]:=by
 induction h<;>first|rfl|assumption
theorem jL{scope:Scope}{env:Env}(h:∀p∈scope.names,p.2= .free→∃a,env.cells.lookup p.1=some a):
  ∃cl,closureFor scope env=pure cl∧(∀x a,cl.lookup x=some a→env.cells.lookup x=some a)∧∀p∈scope.names,p.2= .free→(cl.lookup p.1).isSome=true:=by
 have go:∀(l:List (Str×NameKind)) (acc:List (Str×Addr)),(∀p∈l,p.2= .free→∃a,env.cells.lookup p.1=some a)→(∀x a,acc.lookup x=some a→env.cells.lookup x=some a)→
   ∃cl,(forIn (m:=Sem) l acc fun(x:Str×NameKind) (cs:List (Str×Addr))=>(if(x.2==NameKind.free)=true then do let a ←cellOf env x.1;pure (ForInStep.yield ((x.1,a)::cs)) else pure (ForInStep.yield cs):Sem (ForInStep (List (Str×Addr)))))=pure cl∧(∀x a,cl.lookup x=some a→env.cells.lookup x=some a)∧(∀p∈l,p.2= .free→(cl.lookup p.1).isSome=true)∧∀x,(acc.lookup x).isSome=true→(cl.lookup x).isSome=true:=by
  intro l
  induction l with
  |nil=>intro acc _ h2;exact⟨acc,rfl,h2,(fun p hp=>nomatch hp),fun _ h=>h⟩
  |cons p r ih=>
   intro acc h1 h2
   obtain⟨n,k⟩:=p
   rw[List.forIn_cons]
   by_cases hk:k= .free
   ·subst hk
    refine cI (h1 (n,.free) (List.mem_cons_self ..) rfl) fun a ha=>?_
    have ha:env.cells.lookup n=some a:=ha
    refine cI (ih ((n,a)::acc) (fun p hp=>h1 p (List.mem_cons_of_mem _ hp)) fun x b hx=>by
     rw[List.lookup_cons] at hx
     split at hx
     ·rename_i q;cases hx;rw[beq_iff_eq.mp q];exact ha
     ·exact h2 x b hx) fun cl z0=>?_
    refine m7 z0 fun e1 e2 e3 e4=>?_
    clear z0
    refine⟨cl,?_,e2,fun p hp hk=>?_,fun x hx=>e4 x ?_⟩
    ·have hcell:cellOf env n=pure a:=by unfold cellOf;rw[ha]
     simp only[beq_self_eq_true,if_true,hcell,pure_bind]
     exact e1
    ·rcases List.mem_cons.mp hp with rfl|hp
     ·exact e4 n (by simp)
     ·exact e3 p hp hk
    ·rw[List.lookup_cons];split<;>simp_all
   ·refine Bi (ih acc (fun p hp=>h1 p (List.mem_cons_of_mem _ hp)) h2) fun cl e1 e2 e3 e4=>?_
    refine⟨cl,?_,e2,fun p hp hk' =>?_,e4⟩
    ·have:(k==NameKind.free)=false:=by simpa using hk
     simp only[this,Bool.false_eq_true,if_false,pure_bind]
     exact e1
    ·rcases List.mem_cons.mp hp with rfl|hp
     ·exact absurd hk' hk
     ·exact e3 p hp hk'
 refine Bi (go scope.names [] h (fun x a h=>by simp at h)) fun cl e1 e2 e3 _=>?_
 refine⟨cl,?_,e2,e3⟩
 unfold closureFor
 simp only[bind_pure_comp] at e1 ⊢
 first|exact e1|(rw[show(fun(x:Str×NameKind) (r:List (Str×Addr))=>_)=_ from rfl];exact e1)|simpa using e1
theorem iS{scope:Scope}{env:Env}{x:Str}{k:NameKind}(hn:(scope.names.map (·.1)).Nodup)(h:(x,k)∈scope.names):
  (relabel scope env).names.lookup x=some (if(k== .free&&env.scope.kind== .function&&env.kindOf x==some .cell)=true then .cell else k):=by
 have hk:(relabel scope env).names.map (·.1)=scope.names.map (·.1):=by
  unfold relabel
  simp only[List.map_map]
  refine List.map_congr_left fun p _=>?_
  obtain⟨n,k⟩:=p
  simp only[Function.comp]
  split<;>rfl
 refine cY (by rw[hk];exact hn) ?_
 have:=List.mem_map_of_mem (f:=fun(n,k)=>if(k==NameKind.free&&env.scope.kind==ScopeKind.function&&env.kindOf n==some NameKind.cell) then(n,NameKind.cell) else(n,k)) h
 unfold relabel
 simp only
 by_cases hc:(k==NameKind.free&&env.scope.kind==ScopeKind.function&&env.kindOf x==some NameKind.cell)=true
 ·simp only[hc,if_true] at this ⊢;exact this
 ·simp only[hc] at this ⊢;exact this
noncomputable def eL(h:Heap)(l:List Addr):List (Addr×Obj):=l.filterMap fun a=>(h.get? a).map fun o=>(a,o)
theorem dG{h:Heap}{l:List Addr}{p:Addr×Obj}:p∈eL h l↔p.1∈l∧h.get? p.1=some p.2:=by
 unfold eL
 rw[List.mem_filterMap]
 constructor
 ·intro z0
  refine aH z0 fun a ha e=>?_
  clear z0
  cases q:h.get? a with
  |none=>rw[q] at e;cases e
  |some o=>rw[q] at e;cases e;exact⟨ha,q⟩
 ·intro z0
  refine aG z0 fun h1 h2=>?_
  clear z0
  exact⟨p.1,h1,by rw[h2];rfl⟩
noncomputable def Cx.comp(c:Cx)(cenv:Env)(ps:List (Addr×Obj))(B1:Fz):Cx:={c with env:=cenv,pins:=ps++c.pins,B0:=B1}
section
variable {c:Cx}{σ:St}{X:Value→St→Prop}{B:Fz}{s:Shared}
theorem Conc.getC(hc:Conc c σ B s){x:Str}{Y:V}(h:sY x Y σ.env):∃a,c.env.cells.lookup x=some a:=by
 refine aH hc.vars fun m hn hv=>?_
 rcases h.mem with h|h
 ·obtain⟨_,a,_,e,_⟩:=hv _ h;exact⟨a,e⟩
 ·obtain⟨_,a,_,_,e,_⟩:=hv _ h;exact⟨a,e⟩
theorem Conc.compOk(hc:Conc c σ B s){scope:Scope}{cl:List (Str×Addr)}{C:Addr}(hk:scope.kind= .function):vW (c.comp (compEnvC scope cl C c.env) (eL s.heap (c.env.locals::cels c.env σ.env)) B):=by
 refine⟨hk,hc.base.ok.handled,hc.base.ok.globals,hc.base.ok.builtins,hc.base.ok.depth,hc.base.ok.units,hc.base.ok.frames,hc.base.ok.fkind,hc.base.ok.fsame,?_,fun e he=>?_⟩
 rotate_left
 ·refine aG (hc.base.ok.outer e he) fun a1 z0=>E2x5.e z0 fun L o a2 a3 a4 a5 a6=>?_
  clear z0
  refine⟨a1,L,o,a2,?_,a4,a5,a6⟩
  cases q:B L with
  |none=>exact q
  |some o' =>rw[hc.base.Bnew L o' q (Heap.lt_size a4)] at a3;cases a3
 refine dT hc.base.ok.flive fun L h1 h2 h3=>?_
 refine⟨L,h1,h2,.inr ?_⟩
 rcases h3 with rfl|⟨o,h4,h5⟩
 ·refine aH hc.vars fun m z2 _=>cI z2 fun o z4=>?_
  clear z2
  refine cI z4 fun es z6=>?_
  clear z4
  refine dT z6 fun ep e hd _=>?_
  clear z6
  exact⟨o,List.mem_append_left _ (dG.mpr ⟨List.mem_cons_self ..,e⟩),fun vs q=>by rw[hd] at q;cases q⟩
 ·exact⟨o,List.mem_append_right _ h4,h5⟩
theorem Conc.compVars(hc:Conc c σ B s){scope:Scope}{cl:List (Str×Addr)}{C:Addr}{ce:List (Str×Slot)}(hn:(scope.names.map (·.1)).Nodup)(hce:c0 σ.env scope.names ce)
  (h1:∀x a,cl.lookup x=some a→c.env.cells.lookup x=some a) (h2:∀p∈scope.names,p.2= .free→(cl.lookup p.1).isSome=true):
  ∀B',B.Le B'→∀h m,∀p∈ce,lG (c.comp (compEnvC scope cl C c.env) (eL s.heap (c.env.locals::cels c.env σ.env)) B) B' h m p.1 p.2:=by
 intro B' hB h m p hp
 rcases hce.mem p hp with⟨e,hm⟩|⟨e,hm⟩|⟨Y,e,hm,hg⟩
 ·rw[e]
  exact⟨(iS hn hm).trans rfl,fun Y q=>nomatch q⟩
 ·rw[e]
  exact(iS hn hm).trans rfl
 ·rw[e]
  refine cI (Option.isSome_iff_exists.mp (h2 _ hm rfl)) fun a ha=>?_
  have hea:=h1 _ _ ha
  have hl:=iS (env:=c.env) hn hm
  refine aH hc.vars fun m₀ _ hv=>?_
  rcases hg.mem with hg|hg
  ·refine aG (hv _ hg) fun k z0=>cJ.e z0 fun a' vo e1 z2 e4=>?_
   clear z0
   refine aH z2 fun oc e2 e3=>?_
   clear z2
   rw[hea] at e1;cases e1
   refine aH (e4 Y rfl) fun v z2 r=>?_
   subst z2
   refine⟨.inl (hl.trans (by rw[show c.env.kindOf p.1=some NameKind.cell from k,hc.base.ok.kind];rfl)),a,oc,v,ha,.inl (List.mem_append_left _ (dG.mpr ⟨List.mem_cons_of_mem _ (eE hea hg),e2⟩)),e3,r.mono hB⟩
  ·refine aG (hv _ hg) fun k z0=>gY.e z0 fun a' o v e1 e2 e3 r=>?_
   clear z0
   rw[hea] at e1;cases e1
   refine⟨?_,a,o,v,ha,e2.imp (List.mem_append_right _) (hB a o),e3,r.mono hB⟩
   rcases k with k|⟨k,kd⟩
   ·exact .inl (hl.trans (by rw[show c.env.kindOf p.1=some NameKind.cell from k,hc.base.ok.kind];rfl))
   ·exact .inr ⟨hl.trans (by rw[show c.env.kindOf p.1=some NameKind.free from k,hc.base.ok.kind];rfl),kd⟩
theorem Conc.compIn(hc:Conc c σ B s){scope:Scope}{cl:List (Str×Addr)}{C:Addr}{ce:List (Str×Slot)}{m:Str→Option Value}(hk:scope.kind= .function)(hn:(scope.names.map (·.1)).Nodup)(hd:∀p∈scope.names,(p.1==("__debug__" :Str))=false)(hce:c0 σ.env scope.names ce)
  (h1:∀x a,cl.lookup x=some a→c.env.cells.lookup x=some a) (h2:∀p∈scope.names,p.2= .free→(cl.lookup p.1).isSome=true) (hC:aP c σ B C) (hNs:s.heap.Ns C m):
  Conc (c.comp (compEnvC scope cl C c.env) (eL s.heap (c.env.locals::cels c.env σ.env)) B) ⟨ce,σ.own⟩ B s:=by
 refine j4 (bF.split hc.base.nod) fun n1 n2 n3 n4 n5=>?_
 have hpin:∀a∈c.env.locals::cels c.env σ.env,a∈bF c σ:=fun a ha=>by
  rcases List.mem_cons.mp ha with rfl|ha
  ·exact bF.local_mem c σ
  ·exact bF.cel_mem ha
 have hM:bF (c.comp (compEnvC scope cl C c.env) (eL s.heap (c.env.locals::cels c.env σ.env)) B) ⟨ce,σ.own⟩=C::σ.own.map (·.1):=by
  show C::(cels _ ce++_)=_
  rw[hce.cels];rfl
 refine⟨⟨hc.compOk hk,hc.base.rest,hc.base.size,hc.base.stay,hc.base.TB,hc.base.frz,Fz.Le.refl B,fun a o e _=>e,?_,?_,?_,?_⟩,⟨?_,?_⟩,⟨m,hNs,?_⟩,hc.own⟩
 ·intro p hp
  rcases List.mem_append.mp hp with hp|hp
  ·exact .of_get (dG.mp hp).2
  ·exact hc.base.pins p hp
 ·intro p hp
  rcases List.mem_append.mp hp with hp|hp
  ·exact eT (hc.base.mt p.1 (hpin _ (dG.mp hp).1)) fun b1 b2 _=>⟨b1,b2⟩
  ·exact hc.base.pfree p hp
 ·rw[hM]
  exact List.nodup_cons.mpr ⟨fun h=>hC.2.1 (bF.own_mem h),n4⟩
 ·rw[hM]
  intro a ha
  have hx:∀p∈eL s.heap (c.env.locals::cels c.env σ.env),p.1≠a:=fun p hp e=>by
   refine aG (dG.mp hp) fun q _=>?_
   rw[e] at q
   rcases List.mem_cons.mp ha with rfl|ha
   ·exact hC.2.1 (hpin _ q)
   ·rcases List.mem_cons.mp q with rfl|q
    ·exact n2 ha
    ·exact n5 a q ha
  rcases List.mem_cons.mp ha with rfl|ha
  ·refine⟨hC.2.2.1,.inr hC.1,fun p hp=>?_,hNs.lt⟩
   rcases List.mem_append.mp hp with hp|hp
   ·exact hx p hp
   ·exact hC.2.2.2 p hp
  ·refine m7 (hc.base.mt a (bF.own_mem ha)) fun b1 b2 b3 b4=>?_
   refine⟨b1,b2,fun p hp=>?_,b4⟩
   rcases List.mem_append.mp hp with hp|hp
   ·exact hx p hp
   ·exact b3 p hp
 ·show(ce.map _).Nodup
  rw[hce.keys];exact hn
 ·intro p hp
  have:p.1∈scope.names.map (·.1):=by rw[←hce.keys];exact List.mem_map_of_mem hp
  refine aH (List.mem_map.mp this) fun q hq e=>?_
  rw[←e];exact hd q hq
 ·exact hc.compVars hn hce h1 h2 B (Fz.Le.refl B) _ _
theorem Conc.reset{e ce:List (Str×Slot)}{own:List (Addr×OV)}(hc:Conc c ⟨e,own⟩ B s)(hn:(ce.map (·.1)).Nodup∧∀p∈ce,(p.1==("__debug__" :Str))=false)(hce:cels c.env ce=[])
  (hv:∀h m,∀p∈ce,lG c B h m p.1 p.2):Conc c ⟨ce,own⟩ B s:=by
 have hM:bF c ⟨ce,own⟩=c.env.locals::own.map (·.1):=by simp[bF,hce]
 refine j4 (bF.split hc.base.nod) fun n1 n2 n3 n4 n5=>aH hc.vars fun m hns _=>?_
 refine⟨{hc.base with nod:= ?_,mt:= ?_},hn,⟨m,hns,hv _ _⟩,hc.own⟩
 ·rw[hM];exact List.nodup_cons.mpr ⟨n2,n4⟩
 ·rw[hM]
  intro a ha
  rcases List.mem_cons.mp ha with rfl|ha
  ·exact hc.base.mt _ (bF.local_mem c ⟨e,own⟩)
  ·exact hc.base.mt a (bF.own_mem (σ:=⟨e,own⟩) ha)
theorem Conc.compOut{cenv:Env}{σ' :St}{B' :Fz}{s' :Shared}(hc:Conc c σ B s)(hc' :Conc (c.comp cenv (eL s.heap (c.env.locals::cels c.env σ.env)) B) σ' B' s'):Conc c ⟨σ.env,σ'.own⟩ B' s' :=by
 have hB:B.Le B' :=hc'.base.Bold
 refine j4 (bF.split hc.base.nod) fun n1 n2 n3 n4 n5=>?_
 have pin:∀a∈c.env.locals::cels c.env σ.env,∃o,s.heap.get? a=some o∧(a,o)∈eL s.heap (c.env.locals::cels c.env σ.env):=fun a ha=>by
  have hm:a∈bF c σ:=by
   rcases List.mem_cons.mp ha with rfl|ha
   ·exact bF.local_mem c σ
   ·exact bF.cel_mem ha
  exact cI (hc.live hm) fun o e=>⟨o,e,dG.mpr ⟨ha,e⟩⟩
 have notOwn:∀a∈c.env.locals::cels c.env σ.env,a∉σ'.own.map (·.1):=fun a ha h=>by
  exact aH (pin a ha) fun o e hp=>(hc'.base.mt a (bF.own_mem h)).2.2.1 (a,o) (List.mem_append_left _ hp) rfl
 have kept:∀a∈c.env.locals::cels c.env σ.env,∀o,s.heap.get? a=some o→kN c.F s'.heap a o:=fun a ha o e=>hc'.base.pins (a,o) (List.mem_append_left _ (dG.mpr ⟨ha,e⟩))
 refine aH hc'.vars fun m' n' v' =>?_
 refine⟨⟨hc.base.ok,hc'.base.rest,hc'.base.size,hc'.base.stay,hc'.base.TB,hc'.base.frz,hc.base.Bold.trans hB,fun a o e hl=>hc.base.Bnew a o (hc'.base.Bnew a o e hl) hl,fun p hp=>hc'.base.pins p (List.mem_append_right _ hp),fun p hp=>hc'.base.pfree p (List.mem_append_right _ hp),?_,?_⟩,hc.names,?_,hc'.own⟩
 ·have h4:=(bF.split hc'.base.nod).2.2.2.1
  simp only[bF,List.nodup_cons,List.mem_append,not_or,List.nodup_append]
  exact⟨⟨n1,notOwn _ (List.mem_cons_self ..)⟩,n3,h4,fun a ha b hb e=>notOwn a (List.mem_cons_of_mem _ ha) (e▸hb)⟩
 ·intro a ha
  have split:a∈c.env.locals::cels c.env σ.env∨a∈σ'.own.map (·.1):=by
   simp only[bF,List.mem_cons,List.mem_append] at ha ⊢
   rcases ha with h|h|h
   ·exact .inl (.inl h)
   ·exact .inl (.inr h)
   ·exact .inr h
  rcases split with ha|ha
  ·have hm:a∈bF c σ:=by
    rcases List.mem_cons.mp ha with rfl|ha
    ·exact bF.local_mem c σ
    ·exact bF.cel_mem ha
   exact aH (pin a ha) fun o e hp=>m7 (hc.base.mt a hm) fun b1 b2 b3 b4=>⟨(hc'.base.pfree (a,o) (List.mem_append_left _ hp)).1,b2,b3,(kept a ha o e).lt⟩
  ·exact m7 (hc'.base.mt a (bF.own_mem ha)) fun b1 b2 b3 b4=>⟨b1,b2,fun p hp=>b3 p (List.mem_append_right _ hp),b4⟩
 ·refine aH hc.vars fun m hn hv=>cI (id hn) fun o z0=>cI z0 fun es z2=>?_
  clear z0
  refine aH z2 fun ep ho r=>?_
  clear z2
  refine⟨m,(kept _ (List.mem_cons_self ..) o ho).ns ho hn,fun p hp=>(hv p hp).step hB fun a vo ⟨o',e'⟩ el ic=>?_⟩
  refine aH ic fun oc e1 e2=>?_
  clear ic
  have hac:a∈cels c.env σ.env:=eE el (by rw[←e'];exact hp)
  exact⟨oc,(kept a (List.mem_cons_of_mem _ hac) oc e1).exact (hc.notF (List.mem_append_left _ hac)),e2⟩
end
section
variable {M:Model}{A:Around}{E:Value→Shared→Prop}{s:Shared}{env:Env}
noncomputable def CE(M:Model)(A:Around)(E:Value→Shared→Prop)(use:Option (Value→Sem Unit))(Q:Value→Shared→Prop)(acc:Value)(cenv:Env)(r:Result)(s' :Shared):Prop:=
 match r,use with
 | .ok _,none=>∃m,s'.heap.Ns cenv.locals m∧∀h',Heap.SameBut cenv.locals s'.heap h'→Q acc {s' with heap:=h'}
 | .ok _,some u=>wpAny M A (u acc) (fun _ s'' =>∃m,s''.heap.Ns cenv.locals m∧∀h',Heap.SameBut cenv.locals s''.heap h'→Q .none {s'' with heap:=h'}) E s'
 | .error x,_=>∃m,s'.heap.Ns cenv.locals m∧∀h',Heap.SameBut cenv.locals s'.heap h'→wpAny M A (passOn "comprehension.variables-let-go" x cenv:Sem Value) (fun _ _=>False) E {s' with heap:=h'}
theorem xL{e:Expr}{scope:Scope}{pos:Pos}{newAcc first:Sem Value}{g:Comprehension}{gs:List Comprehension}{cl:List (Str×Addr)}{use:Option (Value→Sem Unit)}{Q:Value→Shared→Prop}
  (hcl:clausesOf e=g::gs) (hs:∀x,foldedSetIterable g.iter env x=pure x) (hclos:closureFor scope env=pure cl) (hkind:scope.kind= .function) (hnames:∀x∈scope.names,x.2= .local→scope.names.lookup x.1=some .local)
  (h:wpAny M A first (fun x s₁=>wpAny M A (pyIter x) (fun it s₂=>wpAny M A newAcc (fun acc s₃=>
   wpAny M A (newFunctionEnv scope env.globals cl [] env.qual none .none (some env)) (fun cenv s₄=>
    codeAny M A (.compStart e 0 it acc {cenv with scope:=relabel scope env}) (CE M A E use Q acc {cenv with scope:=relabel scope env}) s₄) E s₃) E s₂) E s₁) E s):
  wpAny M A (comprehension e scope env pos newAcc false first use) Q E s:=by
 have nv:∀(cenv:Env) (l:List (Str×NameKind)),(∀x∈l,x∈scope.names.filter fun x=>(x.2== .local||x.2== .cell)&&x.1 != (".0" :Str))→∀x∈l,x.2= .local→Env.kindOf {cenv with scope:=relabel scope env} x.1=some .local:=
  fun cenv l hl x hx hk=>lookup_relabel_local (hnames x (List.mem_filter.mp (hl x hx)).1 hk)
 unfold comprehension
 rw[hclos,hcl]
 refine wpAny_bind (wpAny_mono h (fun x s₁ h₁=>?_) fun _ _ y=>y)
 refine wpAny_bind (wpAny_standAt (wpAny_bind (wpAny_of_eq (hs x) (wpAny_bind (wpAny_holding (wpAny_mono h₁ (fun it s₂ h₂=>?_) fun _ _ y=>y))))))
 refine wpAny_standIf (wpAny_bind (wpAny_mono h₂ (fun acc s₃ h₃=>?_) fun _ _ y=>y))
 refine wpAny_bind (wpAny_pure (wpAny_bind (wpAny_mono h₃ (fun cenv s₄ h₄=>?_) fun _ _ y=>y)))
 dsimp only
 refine wpAny_holding (wpAny_bind (wpAny_attempt (wpAny_holding (wpAny_run (codeAny_mono h₄ fun r s' hr=>?_)))))
 cases r with
 |ok f=>
  cases use with
  |none=>
   refine cI hr fun m z0=>?_
   clear hr
   refine aG z0 fun hn hr=>?_
   clear z0
   exact wpAny_bind (wpAny_holding (wpAny_comp_letGo (cenv:={cenv with scope:=relabel scope env}) hkind _ s' m (nv cenv _ fun x hx=>List.mem_reverse.mp hx) hn fun h' m' _ hs' =>wpAny_pure (hr h' hs')))
  |some u=>
   refine wpAny_bind (wpAny_rule (wpAny_bind (wpAny_holding (wpAny_mono hr (fun _ s'' hr' =>?_) fun _ _ y=>y))))
   refine cI hr' fun m z0=>?_
   clear hr'
   refine aG z0 fun hn hr' =>?_
   clear z0
   refine wpAny_bind (wpAny_comp_letGo (cenv:={cenv with scope:=relabel scope env}) hkind _ s'' m (nv cenv _ fun x hx=>?_) hn fun h' m' _ hs' =>wpAny_pure (hr' h' hs'))
   rcases List.mem_append.mp hx with h1|h1
   ·exact List.mem_reverse.mp (List.mem_of_mem_drop h1)
   ·exact List.mem_reverse.mp (List.mem_of_mem_take h1)
 |error x=>
  have hr' :∃m,s'.heap.Ns cenv.locals m∧∀h',Heap.SameBut cenv.locals s'.heap h'→wpAny M A (passOn "comprehension.variables-let-go" x {cenv with scope:=relabel scope env}:Sem Value) (fun _ _=>False) E {s' with heap:=h'}:=by cases use<;>exact hr
  refine aH hr' fun m hn hr=>?_
  clear hr'
  exact wpAny_bind (wpAny_holding (wpAny_comp_letGo (cenv:={cenv with scope:=relabel scope env}) hkind _ s' m (nv cenv _ fun x hx=>List.mem_reverse.mp hx) hn fun h' m' _ hs' =>wpAny_mono (hr h' hs') (fun _ _ f=>f.elim) fun _ _ y=>y))
end
section
variable {prog:Program}{w:World}{A:Around}{R:Result→Shared→Prop}{s:Shared}
noncomputable def I0(prog:Program)(w:World)(A:Around)(acc:Value)(env:Env)(R:Result→Shared→Prop)(I:Nat→Shared→Prop)(n:Nat):Value→Shared→Prop:=fun x s₄=>wpAny (model prog w) A (call (.builtin "list.append") [acc,x]) (fun _=>tQ I n) (wX prog w A env R) s₄
noncomputable def HY(prog:Program)(w:World)(A:Around)(elt:Expr)(acc:Value)(env:Env)(R:Result→Shared→Prop)(I:Nat→Shared→Prop)(n:Nat):Bool→Shared→Prop:=fun ok s₃=>if ok=true then wpAny (model prog w) A (eval elt env) (I0 prog w A acc env R I n) (wX prog w A env R) s₃ else tQ I n s₃
noncomputable def HX(prog:Program)(w:World)(A:Around)(elt target:Expr)(ifs:List Expr)(it acc:Value)(env:Env)(R:Result→Shared→Prop)(I:Nat→Shared→Prop)(n:Nat):Option Value→Shared→Prop:=fun r s₁=>match r with
   |none=>R (.ok .next) s₁
   |some v=>wpAny (model prog w) A (letOwnedTupleGo target it v) (fun _ s₁' =>wpAny (model prog w) A (assign target env v) (fun _ s₂=>
     wpAny (model prog w) A (forIn ifs true fun c r=>if r=true then do let ok ←isTrue c env (eval c env);pure (ForInStep.yield ok) else pure (ForInStep.yield r)) (HY prog w A elt acc env R I n) (wX prog w A env R) s₂) (wX prog w A env R) s₁') (wX prog w A env R) s₁
theorem zL{elt target iter:Expr}{ifs:List Expr}{scope:Scope}{pos:Pos}{it acc:Value}{env:Env}(I:Nat→Shared→Prop)
  (turn:∀n s,I n s→wpAny (model prog w) A (pyNext it) (HX prog w A elt target ifs it acc env R I n) (wX prog w A env R) s)
  (n:Nat) (h:I n s):codeAny (model prog w) A (.compLoop (.ListComp elt [⟨target,iter,ifs,0⟩] scope pos) 0 it acc env) R s:=by
 refine codeAny_loop rfl I (fun n s hI=>?_) n h
 show wpAny _ _ ((compTurn (.ListComp elt [⟨target,iter,ifs,0⟩] scope pos) 0 it acc env).onRaise (fun x=>do noteFrame x env;theTreesLotGoes x)) _ _ s
 refine wpAny_noted ?_
 rw[compTurn_list]
 refine wpAny_bind (wpAny_standAt (wpAny_bind (wpAny_mono (turn n s hI) (fun r s₁ h₁=>?_) fun _ _ y=>y)))
 cases r with
 |none=>exact wpAny_pure h₁
 |some v=>
  refine wpAny_bind (wpAny_mono h₁ (fun _ s₁' h₁' =>?_) fun _ _ y=>y)
  refine wpAny_bind (wpAny_mono h₁' (fun _ s₂ h₂=>wpAny_bind (wpAny_mono h₂ (fun ok s₃ h₃=>?_) fun _ _ y=>y)) fun _ _ y=>y)
  cases ok with
  |false=>exact wpAny_pure ⟨rfl,h₃⟩
  |true=>
   exact wpAny_bind (wpAny_bind (wpAny_mono h₃ (fun x s₄ h₄=>wpAny_bind (wpAny_mono h₄ (fun _ s₅ h₅=>wpAny_pure (wpAny_pure ⟨rfl,h₅⟩)) fun _ _ y=>y)) fun _ _ y=>y))
end
noncomputable abbrev oZ(c:Cx)(ifs:List Expr)(σ:St)(X:Value→St→Prop)(Q:Bool→St→Prop):Prop:=
 WB c (forIn ifs true fun e r=>if r=true then do let ok ←isTrue e c.env (eval e c.env);pure (ForInStep.yield ok) else pure (ForInStep.yield r)) σ X Q
theorem f6{c:Cx}{σ:St}{X:Value→St→Prop}{Q:Bool→St→Prop}(h:Q true σ):oZ c [] σ X Q:=
 fun B s Φ Ψ hc hΦ hΨ=>wpAny_tests_nil (hΦ true true σ B s h rfl (Fz.Le.refl B) hc)
theorem A7{c:Cx}{σ:St}{X:Value→St→Prop}{Q:Bool→St→Prop}{e:Expr}(h:WC c e σ X Q):oZ c [e] σ X Q:=
 fun B s Φ Ψ hc hΦ hΨ=>wpAny_tests_one (h B s Φ Ψ hc hΦ hΨ)
noncomputable def Cx.at(c:Cx)(e:Env)(ps:List (Addr×Obj))(B1:Fz):Cx:={c with env:=e,pins:=ps,B0:=B1}
noncomputable def uA(c:Cx)(target elt:Expr)(ifs:List Expr)(ce:List (Str×Slot))(CI:List V→List V→List (Addr×OV)→Prop)(X:Value→St→Prop):Prop:=
 ∀x r ys own,CI (x::r) ys own→∀e ps b,BE (c.at e ps b) target x ⟨ce,own⟩ X fun σ₂=>oZ (c.at e ps b) ifs σ₂ X fun ok σ₃=>if ok=true then WE (c.at e ps b) elt σ₃ X (fun y σ₄=>CI r (ys++[y]) σ₄.own) else CI r ys σ₃.own
section
variable {c:Cx}{σ:St}{X:Value→St→Prop}{B:Fz}{s:Shared}
theorem aP.compOut{cenv:Env}{σ' :St}{B' :Fz}{s₀:Shared}{a:Addr}{B₀:Fz}(hc:Conc c σ B₀ s₀)(g:aP (c.comp cenv (eL s₀.heap (c.env.locals::cels c.env σ.env)) B₀) σ' B' a):aP c ⟨σ.env,σ'.own⟩ B' a:=by
 refine⟨g.1,fun h=>?_,g.2.2.1,fun p hp=>g.2.2.2 p (List.mem_append_right _ hp)⟩
 have split:a∈c.env.locals::cels c.env σ.env∨a∈σ'.own.map (·.1):=by
  simp only[bF,List.mem_cons,List.mem_append] at h ⊢
  rcases h with h|h|h
  ·exact .inl (.inl h)
  ·exact .inl (.inr h)
  ·exact .inr h
 rcases split with h|h
 ·have hm:a∈bF c σ:=by
   rcases List.mem_cons.mp h with rfl|h
   ·exact bF.local_mem c σ
   ·exact bF.cel_mem h
  exact cI (hc.live hm) fun o e=>g.2.2.2 (a,o) (List.mem_append_left _ (dG.mpr ⟨h,e⟩)) rfl
 ·exact g.2.1 (bF.own_mem h)
theorem aP.pinOn{I a:Addr}{o:Obj}(g:aP c σ B a)(h:I≠a):aP (c.pin [(I,o)]) σ B a:=⟨g.1,g.2.1,g.2.2.1,fun p hp=>by
 rcases List.mem_cons.mp hp with rfl|hp
 ·exact h
 ·exact g.2.2.2 p hp⟩
theorem vW.pin{I:Addr}{o:Obj}(h:vW c):vW (c.pin [(I,o)]):=by
 exact dT h.flive fun L h1 h2 h3=>{h with flive:=⟨L,h1,h2,h3.imp id fun⟨o',h4,h5⟩=>⟨o',List.mem_cons_of_mem _ h4,h5⟩⟩}
theorem Conc.pinGhost{I:Addr}{o:Obj}{ps:List (Addr×Obj)}{σ' :St}{B' :Fz}{s' :Shared}(hc:Conc (c.pin ps) σ' B' s')(hm:(I,o)∈ps)(h1:c.s0.heap.objs.size≤I)(h2:∀p∈c.pins,p.1≠I):aP c σ' B' I:=
 ⟨h1,fun h=>(hc.base.mt I h).2.2.1 (I,o) (List.mem_append_left _ hm) rfl,(hc.base.pfree (I,o) (List.mem_append_left _ hm)).1,h2⟩
noncomputable def HZ(c:Cx)(e:Env)(ps:List (Addr×Obj))(b0 B:Fz)(ce:List (Str×Slot))(CI:List V→List V→List (Addr×OV)→Prop)(I D:Addr)(items:List V)(fp:List Addr)(P:Nat→Value→Prop)(Sx:Nat→Heap→Prop)(k:Nat)(s' :Shared):Prop:=pY (fun i B' ys own' vs=>k=items.length+1-i) (fun i B' ys own' vs=>i≤items.length) (fun i B' ys own' vs=>CI (items.drop i) ys own') (fun i B' ys own' vs=>qX c.g B' I items i s'.heap fp P Sx) (fun i B' ys own' vs=>B.Le B') (fun i B' ys own' vs=>Conc (c.at e ps b0) ⟨ce,own'⟩ B' s') (fun i B' ys own' vs=>sX s'.heap D vs) (fun i B' ys own' vs=>Reps c.g B' ys vs.toList) (fun i B' ys own' vs=>aP (c.at e ps b0) ⟨ce,own'⟩ B' I) (fun i B' ys own' vs=>aP (c.at e ps b0) ⟨ce,own'⟩ B' D) (fun i B' ys own' vs=>ys.length≤i)
theorem Bm{elt target iter:Expr}{ifs:List Expr}{scope:Scope}{pos:Pos}{ce:List (Str×Slot)}{CI:List V→List V→List (Addr×OV)→Prop}{items:List V}{I D:Addr}{fp:List Addr}{P:Nat→Value→Prop}{Sx:Nat→Heap→Prop}{own:List (Addr×OV)}{R:Result→Shared→Prop}{xc:Cx}{e:Env}{ps:List (Addr×Obj)}{b0:Fz}
  (hxc:xc=c.at e ps b0) (hcn:(ce.map (·.1)).Nodup∧∀p∈ce,(p.1==("__debug__" :Str))=false) (hcels:cels e ce=[]) (hcv:∀B',B.Le B'→∀h m,∀p∈ce,lG xc B' h m p.1 p.2)
  (ht:uA c target elt ifs ce CI X) (hci:CI items [] own) (hlen:items.length≤sizeLine) (hc:Conc xc ⟨ce,own⟩ B s) (it:qX c.g B I items 0 s.heap fp P Sx) (gI:aP xc ⟨ce,own⟩ B I) (gD:aP xc ⟨ce,own⟩ B D) (hID:I≠D) (hD:sX s.heap D #[])
  (hR:∀ys own' vs B' s',CI [] ys own'→B.Le B'→Conc xc ⟨ce,own'⟩ B' s'→sX s'.heap D vs→Reps c.g B' ys vs.toList→aP xc ⟨ce,own'⟩ B' D→R (.ok .next) s')
  (hX:∀x s',zY xc X x s'→(∀σ' B',Conc xc σ' B' s'→True)→notedBy (model c.g.prog c.g.w) c.A e (fun x s' =>R (.error x) s') x s'):
  codeAny (model c.g.prog c.g.w) c.A (.compLoop (.ListComp elt [⟨target,iter,ifs,0⟩] scope pos) 0 (.ref I) (.ref D) e) R s:=by
 subst hxc
 have hok:=hc.base.ok
 have hA:c.A.handled=none:=hok.handled
 have hX:∀x s',zY (c.at e ps b0) X x s'→notedBy (model c.g.prog c.g.w) c.A e (fun x s' =>R (.error x) s') x s' :=fun x s' h=>hX x s' h fun _ _ _=>trivial
 refine zL (HZ c e ps b0 B ce CI I D items fp P Sx) ?_ (items.length+1)
  ⟨0,B,[],own, #[],rfl,Nat.zero_le _,by simpa using hci,it,Fz.Le.refl B,hc,hD,.nil,gI,gD,Nat.le_refl _⟩
 intro k s' z0
 refine pY.e z0 fun i B' ys own' vs z1 hi hci' it' hle' hc' hD' hys gI' gD' hyl=>?_
 clear z0
 subst z1
 by_cases hlt:i<items.length
 ·refine(it'.walks c.A hA).item i s' _ _ hlt it'.st fun v h' tk hP hst hk=>?_
  have hk' :∀a o,a≠I→s'.heap.get? a=some o→h'.get? a=some o:=fun a o hne e=>hk a o (by simpa using hne) e
  have hc₂:Conc (c.at e ps b0) ⟨ce,own'⟩ B' {s' with heap:=h',toks:=tk}:=hc'.kept fun a o e g=> .of_get (hk' a o (fun q=>g (by rw[q];exact gI')) e)
  refine aH (it'.item i v hP) fun x ex rx=>cW.e (it'.cls (i+1) h' hst) fun oI nI eI eI2 eI3 hclI=>dT (id hD') fun oD eD0 eD1 z2=>aH z2 fun nD eD2 eD3=>?_
  clear z2
  have eD:h'.get? D=some oD:=hk' D oD (Ne.symm hID) eD0
  have hclD:∀v,oD.data≠ .cell v:=fun v q=>by rw[eD2] at q;cases q
  have hcD:=hc₂.pinOn gD' eD
  have hcp:=hcD.pinOn (gI'.pinOn (o:=oD) (Ne.symm hID)) eI
  have hokD:vW ((c.at e ps b0).pin [(D,oD)]):=hok.pin
  have backp:∀x s',zY (((c.at e ps b0).pin [(D,oD)]).pin [(I,oI)]) X x s'→notedBy (model c.g.prog c.g.w) c.A e (fun x s' =>R (.error x) s') x s' :=fun x s' hx=>hX x s' ((hx.pinOff hokD hclI).pinOff hok hclD)
  have turn:=ht x (items.drop (i+1)) ys own' (by rw[←oS ex];exact hci') e ((I,oI)::(D,oD)::ps) b0
  refine tP eI eI2 eI3 (turn B' _ v _ _ rx hcp (fun _ _ σ₂ B₂ s₂ hq₂ _ hle₂ hc₃=>?_) backp)
  refine hq₂ B₂ s₂ _ _ hc₃ (fun ok ok' σ₃ B₃ s₃ hq₃ hr₃ hle₃ hc₄=>?_) backp
  have hr₃:ok=ok' :=hr₃
  subst hr₃
  have behind:∀(σ₄:St) (B₄:Fz) (s₄:Shared),B'.Le B₄→Conc (((c.at e ps b0).pin [(D,oD)]).pin [(I,oI)]) σ₄ B₄ s₄→Conc (c.at e ps b0) ⟨ce,σ₄.own⟩ B₄ s₄∧s₄.heap.get? D=some oD∧s₄.heap.get? I=some oI∧aP (c.at e ps b0) ⟨ce,σ₄.own⟩ B₄ I∧aP (c.at e ps b0) ⟨ce,σ₄.own⟩ B₄ D:=fun σ₄ B₄ s₄ hB₄ hc₄=>by
   have h1:=(hc₄.pinOff hokD hclI).pinOff hok hclD
   have h2:Conc (c.at e ps b0) ⟨ce,σ₄.own⟩ B₄ s₄:=Conc.reset (e:=σ₄.env) h1 hcn hcels fun h m=>hcv B₄ (hle'.trans hB₄) h m
   have pI:=hc₄.base.pins (I,oI) (List.mem_cons_self ..)
   have pD:=hc₄.base.pins (D,oD) (List.mem_cons_of_mem _ (List.mem_cons_self ..))
   have gI₄:aP (c.at e ps b0) σ₄ B₄ I:=⟨gI'.1,fun h=>(hc₄.base.mt I h).2.2.1 (I,oI) (List.mem_cons_self ..) rfl,(hc₄.base.pfree (I,oI) (List.mem_cons_self ..)).1,gI'.2.2.2⟩
   have gD₄:aP (c.at e ps b0) σ₄ B₄ D:=⟨gD'.1,fun h=>(hc₄.base.mt D h).2.2.1 (D,oD) (List.mem_cons_of_mem _ (List.mem_cons_self ..)) rfl,(hc₄.base.pfree (D,oD) (List.mem_cons_of_mem _ (List.mem_cons_self ..))).1,gD'.2.2.2⟩
   have sub:∀a,aP (c.at e ps b0) σ₄ B₄ a→aP (c.at e ps b0) ⟨ce,σ₄.own⟩ B₄ a:=fun a g=>⟨g.1,fun h=>g.2.1 (by
    simp only[bF,List.mem_cons,List.mem_append] at h ⊢
    rcases h with h|h|h
    ·exact .inl h
    ·rw[show cels (c.at e ps b0).env ce=[] from hcels] at h;cases h
    ·exact .inr (.inr h)),g.2.2.1,g.2.2.2⟩
   exact⟨h2,pD.exact fun hF=>h1.frameGhost D hF gD₄,pI.exact fun hF=>h1.frameGhost I hF gI₄,sub I gI₄,sub D gD₄⟩
  have itn:∀(B₄:Fz) (s₄:Shared),B'.Le B₄→s₄.heap.get? I=some oI→(∀a o,B₄ a=some o→s₄.heap.get? a=some o)→qX c.g B₄ I items (i+1) s₄.heap fp P Sx:=fun B₄ s₄ hB₄ eI₄ hf=>by
   have it₂:qX c.g B' I items (i+1) h' fp P Sx:={it' with st:=hst}
   refine lB hA it₂ hB₄ (fun o e=>?_) (fun a o e=>hf a o (hB₄ a o e)) hc₂.base.frz
   rw[eI] at e;cases e;exact eI₄
  cases ok with
  |false=>
   exact j4 (behind σ₃ B₃ s₃ (hle₂.trans hle₃) hc₄) fun h1 h2 h3 h4 h5=>⟨items.length+1-(i+1),by exact aI [_,_,_,_] [] (.Eq (.a .w (.a .y (.n 1))) (.a .z (.n 1))) 1 (.Eq (.a .x .y) (.a .z (.n 1))) (.negSucc 0) (.Lt .w .x) 0 qq (Nat.sub_add_cancel (aB [_,_] [] (.Lt .w .x) 1 (.Le (.a .w (.n 1)) (.a .x (.n 1))) 0 qq hlt)) (Nat.sub_add_cancel (aB [_,_,_] [] (.Eq (.a .y (.a .w (.n 1))) (.a .x (.n 1))) 1 (.Le .w (.a .x (.n 1))) 0 qq (Nat.sub_add_cancel (aB [_,_] [] (.Lt .w .x) 1 (.Le (.a .w (.n 1)) (.a .x (.n 1))) 0 qq hlt)))),i+1,B₃,ys,σ₃.own,vs,rfl,by exact aB [_,_] [] (.Lt .w .x) 1 (.Le (.a .w (.n 1)) .x) 0 qq hlt,hq₃,itn B₃ s₃ (hle₂.trans hle₃) h3 h1.base.frz,hle'.trans (hle₂.trans hle₃),h1,⟨oD,h2,eD1,nD,eD2,eD3⟩,hys.mono (hle₂.trans hle₃),h4,h5,by exact aB [_,_] [] (.Le .w .x) 1 (.Le .w (.a .x (.n 1))) 0 qq hyl⟩
  |true=>
   refine hq₃ B₃ s₃ _ _ hc₄ (fun y Y σ₄ B₄ s₄ hq₄ hr₄ hle₄ hc₅=>?_) backp
   have hB₄:=(hle₂.trans hle₃).trans hle₄
   refine j4 (behind σ₄ B₄ s₄ hB₄ hc₅) fun h1 h2 h3 h4 h5=>?_
   have hvl:vs.size=ys.length:=by rw[←Array.length_toList];exact hys.length
   refine vP (items:=vs) ⟨oD,h2,eD1,nD,eD2,eD3⟩ (fun h₆ hl₆ hs₆=>?_) (by exact uT [_,_,_,_,_] [] (.Le .y .x) 1 (.Le .z (.v 4)) 1 (.Lt (.v 4) .y) 1 (.Eq .w .z) 1 (.Le .w .x) 0 qq hlen hyl hlt hvl)
   have hc₆:Conc (c.at e ps b0) ⟨ce,σ₄.own⟩ B₄ {s₄ with heap:=h₆}:=h1.kept (tk:=s₄.toks) fun a o e g=> .of_get ((hs₆.2 a fun q=>g (by rw[q];exact h5)).trans e)
   exact⟨items.length+1-(i+1),by exact aI [_,_,_,_] [] (.Eq (.a .w (.a .y (.n 1))) (.a .z (.n 1))) 1 (.Eq (.a .x .y) (.a .z (.n 1))) (.negSucc 0) (.Lt .w .x) 0 qq (Nat.sub_add_cancel (aB [_,_] [] (.Lt .w .x) 1 (.Le (.a .w (.n 1)) (.a .x (.n 1))) 0 qq hlt)) (Nat.sub_add_cancel (aB [_,_,_] [] (.Eq (.a .y (.a .w (.n 1))) (.a .x (.n 1))) 1 (.Le .w (.a .x (.n 1))) 0 qq (Nat.sub_add_cancel (aB [_,_] [] (.Lt .w .x) 1 (.Le (.a .w (.n 1)) (.a .x (.n 1))) 0 qq hlt)))),i+1,B₄,ys++[Y],σ₄.own,vs.push y,rfl,by exact aB [_,_] [] (.Lt .w .x) 1 (.Le (.a .w (.n 1)) .x) 0 qq hlt,hq₄,itn B₄ _ hB₄ ((hs₆.2 I hID).trans h3) hc₆.base.frz,hle'.trans hB₄,hc₆,hl₆,
    by rw[Array.toList_push];exact(hys.mono hB₄).append (.cons hr₄ .nil),h4,h5,by rw[List.length_append,List.length_singleton];exact aB [_,_] [] (.Le .w .x) 1 (.Le (.a .w (.n 1)) (.a .x (.n 1))) 0 qq hyl⟩
 ·have hin:i=items.length:=by exact Nat.le_antisymm (hi) (aB [_,_] [] (.Nlt .x .w) 1 (.Le .w .x) 0 qq hlt)
  subst hin
  refine(it'.walks c.A hA).done s' _ _ it'.st fun h' tk hk=>?_
  have hk' :∀a o,a≠I→s'.heap.get? a=some o→h'.get? a=some o:=fun a o hne e=>hk a o (by simpa using hne) e
  have hc₂:Conc (c.at e ps b0) ⟨ce,own'⟩ B' {s' with heap:=h',toks:=tk}:=hc'.kept fun a o e g=> .of_get (hk' a o (fun q=>g (by rw[q];exact gI')) e)
  rw[List.drop_length] at hci'
  exact hR ys own' vs B' _ hci' hle' hc₂ (hD'.at fun o e=>hk' D o (Ne.symm hID) e) hys gD'
theorem u0{elt target iter:Expr}{ifs:List Expr}{scope:Scope}{pos:Pos}{use:Option (Value→Sem Unit)}{Φ Ψ:Value→Shared→Prop}{ce:List (Str×Slot)}
  (hk:scope.kind= .function) (hn:(scope.names.map (·.1)).Nodup) (hd:∀p∈scope.names,(p.1==("__debug__" :Str))=false) (hs:∀x,foldedSetIterable iter c.env x=pure x) (hce:c0 σ.env scope.names ce)
  (h:mH c iter σ X fun items σ₁=>items.length≤sizeLine∧σ₁.env=σ.env∧∃CI:List V→List V→List (Addr×OV)→Prop,CI items [] σ₁.own∧uA c target elt ifs ce CI (fun cls σ' =>X cls ⟨σ.env,σ'.own⟩)∧∀ys own B' s' D C m,CI [] ys own→B.Le B'→c5 c.g B' (.lst ys) (.ref D)→Conc c ⟨σ.env,own⟩ B' s'→aP c ⟨σ.env,own⟩ B' C→s'.heap.Ns C m→match use with
    |none=>∀h',Heap.SameBut C s'.heap h'→Φ (.ref D) {s' with heap:=h'}
    |some u=>wpAny (model c.g.prog c.g.w) c.A (u (.ref D)) (fun _ s'' =>∃m,s''.heap.Ns C m∧∀h',Heap.SameBut C s''.heap h'→Φ .none {s'' with heap:=h'}) Ψ s')
  (hc:Conc c σ B s) (hΨ:jC c X Ψ):
  wpAny (model c.g.prog c.g.w) c.A (comprehension (.ListComp elt [⟨target,iter,ifs,0⟩] scope pos) scope c.env (firstIterPos [⟨target,iter,ifs,0⟩] pos) (newList []) false (eval iter c.env) use) Φ Ψ s:=by
 obtain⟨cl,hcl,hcl1,hcl2⟩:∃cl,closureFor scope c.env=pure cl∧(∀x a,cl.lookup x=some a→c.env.cells.lookup x=some a)∧∀p∈scope.names,p.2= .free→(cl.lookup p.1).isSome=true:=
  jL fun p hp hf=>by obtain⟨Y,hY⟩:=hce.free p hp hf;exact hc.getC hY
 have hlook:∀x∈scope.names,x.2= .local→scope.names.lookup x.1=some .local:=fun x hx hl=>cY hn (by rw[←hl];exact hx)
 refine xL (g:=⟨target,iter,ifs,0⟩) (gs:=[]) rfl hs hcl hk hlook ?_
 refine h B s _ _ hc (fun I items fp P Sx σ₁ B₁ s₁ hq it gI hle hc₁=>?_) hΨ
 refine eT hq fun hlen he z0=>?_
 clear hq
 refine dT z0 fun CI hci hturn hfin=>?_
 clear z0
 obtain⟨e₁,o₁⟩:=σ₁
 simp only at he hci
 subst he
 refine wpAny_newObj_type (wpAny_newFunctionEnv hce.noCell (by intro y hy;simp at hy) (fun h₁ hns₁ hsb₁=>?_) hk)
 dsimp only at hns₁ hsb₁ ⊢
 generalize hH2:s₁.heap.push {cls:= .type "list",dict:=none,data:= .seq ([]:List Value).toArray}=H2 at hns₁ hsb₁ ⊢
 have hsz2:H2.objs.size=s₁.heap.objs.size+1:=by rw[←hH2,Heap.size_push]
 have hDlt:s₁.heap.objs.size<H2.objs.size:=by exact aB [_,_] [] (.Eq .x (.a .w (.n 1))) (.negSucc 0) (.Lt .w .x) 0 qq hsz2
 have old:∀b o,s₁.heap.get? b=some o→h₁.get? b=some o:=fun b o e=>hsb₁.extBut b o (Nat.ne_of_lt (Nat.lt_trans (Heap.lt_size e) hDlt)) (Heap.get?_push_of_some _ (by rw[←hH2];exact Heap.get?_push_of_some _ e))
 have hDg:h₁.get? s₁.heap.objs.size=some {cls:= .type "list",dict:=none,data:= .seq ([]:List Value).toArray}:=hsb₁.extBut _ _ (Nat.ne_of_lt hDlt) (Heap.get?_push_of_some _ (by rw[←hH2];exact Heap.get?_push_size _ rfl))
 have hsz1:h₁.objs.size=H2.objs.size+1:=by rw[hsb₁.1,Heap.size_push]
 have hcA:Conc c ⟨σ.env,o₁⟩ B₁ {s₁ with heap:=h₁,toks:=s₁.toks+([]:List (Str×Value)).length}:=hc₁.grow old (by exact aI [_,_,_] [] (.Lt .w .y) 1 (.Eq .x (.a .y (.n 1))) (.negSucc 0) (.Le .w .x) 0 qq hDlt hsz1)
 have gnew:∀a,s₁.heap.objs.size≤a→aP c ⟨σ.env,o₁⟩ B₁ a:=fun a ha=>by
  refine⟨Nat.le_trans hc₁.base.size ha,fun hm=>absurd (hc₁.base.mt a hm).2.2.2 (Nat.not_lt.mpr ha),?_,fun p hp e=>absurd (e▸(hc₁.base.pins p hp).lt) (Nat.not_lt.mpr ha)⟩
  cases q:B₁ a with
  |none=>rfl
  |some o=>exact absurd (Heap.lt_size (hc₁.base.frz a o q)) (Nat.not_lt.mpr ha)
 have hIlt:I<s₁.heap.objs.size:=by
  obtain⟨o,_,e,_⟩:=it.cls 0 _ it.st
  exact Heap.lt_size e
 have gC:=gnew H2.objs.size (by exact aB [_,_] [] (.Lt .w .x) 1 (.Le .w .x) 0 qq hDlt)
 have hcI:=hcA.compIn hk hn hd hce hcl1 hcl2 gC hns₁
 have gin:∀a,aP c ⟨σ.env,o₁⟩ B₁ a→a≠H2.objs.size→aP (c.comp (compEnvC scope cl H2.objs.size c.env) (eL h₁ (c.env.locals::cels c.env σ.env)) B₁) ⟨ce,o₁⟩ B₁ a:=fun a g hne=>by
  refine⟨g.1,fun hm=>?_,g.2.2.1,fun p hp e=>?_⟩
  ·have:a∈H2.objs.size::o₁.map (·.1):=by
    have hM:bF (c.comp (compEnvC scope cl H2.objs.size c.env) (eL h₁ (c.env.locals::cels c.env σ.env)) B₁) ⟨ce,o₁⟩=H2.objs.size::o₁.map (·.1):=by
     show H2.objs.size::(cels _ ce++_)=_
     rw[hce.cels];rfl
    rw[hM] at hm;exact hm
   rcases List.mem_cons.mp this with h|h
   ·exact hne h
   ·exact g.2.1 (bF.own_mem h)
  ·rcases List.mem_append.mp hp with hp|hp
   ·refine aG (dG.mp hp) fun q _=>?_
    rw[e] at q
    rcases List.mem_cons.mp q with h|h
    ·exact g.2.1 (h▸bF.local_mem c ⟨σ.env,o₁⟩)
    ·exact g.2.1 (bF.cel_mem (σ:=⟨σ.env,o₁⟩) h)
   ·exact g.2.2.2 p hp e
 have it₁:qX c.g B₁ I items 0 h₁ fp P Sx:=lB hc.base.ok.handled it (Fz.Le.refl B₁) (fun o e=>old I o e) (fun a o e=>old a o (hc₁.base.frz a o e)) hc₁.base.frz
 have hnd:(ce.map (·.1)).Nodup∧∀p∈ce,(p.1==("__debug__" :Str))=false:=hcI.names
 have out:∀{σ' :St} {B' :Fz} {s' :Shared},Conc (c.comp (compEnvC scope cl H2.objs.size c.env) (eL h₁ (c.env.locals::cels c.env σ.env)) B₁) σ' B' s'→Conc c ⟨σ.env,σ'.own⟩ B' s'∧aP c ⟨σ.env,σ'.own⟩ B' H2.objs.size∧∃m,s'.heap.Ns H2.objs.size m:=fun{σ' B' s'} hc' =>by
  have h1:=hcA.compOut hc'
  refine aH hc'.vars fun m n' _=>?_
  refine⟨h1,⟨gC.1,fun hm=>?_,(hc'.base.mt _ (bF.local_mem _ σ')).1,gC.2.2.2⟩,m,n'⟩
  have split:H2.objs.size∈c.env.locals::cels c.env σ.env∨H2.objs.size∈σ'.own.map (·.1):=by
   simp only[bF,List.mem_cons,List.mem_append] at hm ⊢
   rcases hm with h|h|h
   ·exact .inl (.inl h)
   ·exact .inl (.inr h)
   ·exact .inr h
  rcases split with h|h
  ·exact gC.2.1 (by
    rcases List.mem_cons.mp h with h|h
    ·rw[h];exact bF.local_mem c ⟨σ.env,o₁⟩
    ·exact bF.cel_mem (σ:=⟨σ.env,o₁⟩) h)
  ·exact(bF.split hc'.base.nod).2.1 h
 have loop:=Bm (c:=c) (X:=fun cls σ' =>X cls ⟨σ.env,σ'.own⟩) (elt:=elt) (target:=target) (iter:=iter) (ifs:=ifs) (scope:=scope) (pos:=pos) (CI:=CI) (D:=s₁.heap.objs.size) (R:=CE (model c.g.prog c.g.w) c.A Ψ use Φ (.ref s₁.heap.objs.size) (compEnvC scope cl H2.objs.size c.env))
  (e:=compEnvC scope cl H2.objs.size c.env) (ps:=eL h₁ (c.env.locals::cels c.env σ.env)++c.pins) rfl hnd (hce.cels _) (hcA.compVars hn hce hcl1 hcl2) hturn hci hlen hcI it₁ (gin I ⟨gI.1,gI.2.1,gI.2.2.1,gI.2.2.2⟩ (Nat.ne_of_lt (Nat.lt_trans hIlt hDlt))) (gin _ (gnew _ (Nat.le_refl _)) (Nat.ne_of_lt hDlt)) (Nat.ne_of_lt hIlt) ⟨_,hDg,rfl,_,rfl,rfl,rfl⟩ ?fin ?exc
 case fin=>
  intro ys own' vs B' s' hci' hB' hc' hD' hys gD'
  refine eT (out hc') fun h1 gC' z0=>cI z0 fun m' hns' =>?_
  clear z0
  have gD'' :aP c ⟨σ.env,own'⟩ B' s₁.heap.objs.size:=gD'.compOut hcA
  refine dT (id hD') fun oD eD0 eD1 z2=>aH z2 fun nD eD2 eD3=>?_
  clear z2
  have hfz:=h1.freeze eD0 gD''.2.2.1 gD''.1 gD''.2.1 gD''.2.2.2
  have hBl:=Fz.Le.put oD gD''.2.2.1
  have hrep:c5 c.g (B'.put s₁.heap.objs.size oD) (.lst ys) (.ref s₁.heap.objs.size):= .lst eD3.1 (Fz.put_self _ _ _) eD1 eD2 (hys.mono hBl)
  have gC'' :aP c ⟨σ.env,own'⟩ (B'.put s₁.heap.objs.size oD) H2.objs.size:=⟨gC'.1,gC'.2.1,by unfold Fz.put;rw[if_neg (Nat.ne_of_gt hDlt)];exact gC'.2.2.1,gC'.2.2.2⟩
  have:=hfin ys own' _ s' s₁.heap.objs.size H2.objs.size m' hci' ((hle.trans hB').trans hBl) hrep hfz gC'' hns'
  cases use with
  |none=>exact⟨m',hns',this⟩
  |some u=>exact this
 case exc=>
  intro x s' z0
  refine jO.e z0 fun σ' B' ea cls hx z1 hc' hF=>?_
  clear z0
  subst z1
  intro _
  refine dT hc'.base.ok.flive fun L hL _ _=>fB hc' (show(compEnvC scope cl H2.objs.size c.env).frame=_ from hc'.base.ok.fsame) hL hF fun s₁ hc₁' hN=>eT (out hc₁') fun h1 gC' z0=>cI z0 fun m' hns' =>?_
  clear z0
  refine⟨m',hns',fun h' hsb=>?_⟩
  refine aG hN fun gea z0=>?_
  clear hN
  refine lJ.e z0 fun oe vs T oT ts e1 e2 e3 e4 e5 e6 e7 e8 e9=>?_
  clear z0
  have gea' :=aP.compOut hcA gea
  have gT' :=aP.compOut hcA e6
  have eaC:ea≠H2.objs.size:=fun q=>gea.2.1 (q▸bF.local_mem _ σ')
  have TC:T≠H2.objs.size:=fun q=>e6.2.1 (q▸bF.local_mem _ σ')
  have hN' :k7 c ⟨σ.env,σ'.own⟩ B' ea cls (rawInt L) h' :=⟨gea',oe,vs,T,oT,ts,(hsb.2 ea eaC).trans e1,e2,e3,e4,e5,gT',(hsb.2 T TC).trans e7,e8,e9⟩
  have h2:Conc c ⟨σ.env,σ'.own⟩ B' {s₁ with heap:=h'}:=h1.kept (tk:=s₁.toks) fun a o e g=> .of_get ((hsb.2 a fun q=>g (q▸gC')).trans e)
  unfold PySem.passOn
  refine wpAny_bind (wpAny_field ((hsb.2 ea eaC).trans e1) e3 e4 ?_)
  rw[if_neg (show¬((Value.ref T==Value.none)=true) from by simp)]
  have hfr:(compEnvC scope cl H2.objs.size c.env).frame=some L:=(show(compEnvC scope cl H2.objs.size c.env).frame=_ from hc'.base.ok.fsame).trans hL
  rw[hfr]
  refine wpAny_bind (dB h2 hN' (some L) fun s₂ hc₂ hN₂=>?_)
  have hcL:c.fenv.frame=some L:=hL
  exact wpAny_throw (hΨ _ _ ⟨_,B',ea,cls,hx,rfl,hc₂,k7.fly hcL hN₂⟩)
 exact codeAny_compStart_list loop ((it₁.walks c.A hc.base.ok.handled).self 0 {s₁ with heap:=h₁,toks:=s₁.toks+([]:List (Str×Value)).length} _ _ it₁.st loop)
end
section
variable {c:Cx}{σ:St}{X:Value→St→Prop}
noncomputable def HN(J:List V→List (Addr×OV)→Prop)(ys:List V)(y:V)(σ:St):Prop:=J (ys++[y]) σ.own
noncomputable def HL(c:Cx)(X:Value→St→Prop)(J:List V→List (Addr×OV)→Prop)(elt:Expr)(ys:List V)(ok:Bool)(σ:St):Prop:=if ok=true then WE c elt σ X (HN J ys) else J ys σ.own
noncomputable def Ho(c:Cx)(X:Value→St→Prop)(J:List V→List (Addr×OV)→Prop)(ifs:List Expr)(elt:Expr)(ys:List V)(σ:St):Prop:=oZ c ifs σ X (HL c X J elt ys)
theorem fV{J:List V→List (Addr×OV)→Prop}{elt:Expr}{ys:List V}{ok:Bool}(ht:ok=true)(h:WE c elt σ X (HN J ys)):HL c X J elt ys ok σ:=by subst ht;exact h
noncomputable def A4(c:Cx)(target elt:Expr)(ifs:List Expr)(ce:List (Str×Slot))(CI:List V→List V→List (Addr×OV)→Prop)(X:Value→St→Prop):Prop:=
 ∀J:List V→List V→List (Addr×OV)→Prop,(∀r ys own,CI r ys own→J r ys own)→∀x r ys own,CI (x::r) ys own→∀e ps b,BE (c.at e ps b) target x ⟨ce,own⟩ X (Ho (c.at e ps b) X (J r) ifs elt ys)
noncomputable def KX(X:Value→St→Prop)(env:List (Str×Slot))(cls:Value)(σ:St):Prop:=X cls ⟨env,σ.own⟩
inductive Ay(c:Cx)(X:Value→St→Prop)(Q:V→St→Prop)(target elt:Expr)(ifs:List Expr)(ce env:List (Str×Slot))(items:List V)(σ:St):Prop
 |mk (hz:items.length≤sizeLine) (he:σ.env=env) (CI:List V→List V→List (Addr×OV)→Prop) (h0:CI items [] σ.own) (ht:A4 c target elt ifs ce CI (KX X env)) (hf:∀ys own,CI [] ys own→Q (.lst ys) ⟨env,own⟩):Ay c X Q target elt ifs ce env items σ
noncomputable def yC(c:Cx)(target elt iter:Expr)(ifs:List Expr)(σ:St)(ce:List (Str×Slot))(X:Value→St→Prop)(Q:V→St→Prop):Prop:=mH c iter σ X (Ay c X Q target elt ifs ce σ.env)
theorem dZ{elt target iter:Expr}{ifs:List Expr}{scope:Scope}{pos:Pos}{ce:List (Str×Slot)}{Q:V→St→Prop}(hce:c0 σ.env scope.names ce)(h:yC c target elt iter ifs σ ce X Q)
  (hk:autoParam (scope.kind= .function) c8) (hn:autoParam ((scope.names.map (·.1)).Nodup) mV) (hd:autoParam (∀p∈scope.names,(p.1==("__debug__" :Str))=false) mV) (hs:autoParam (foldedSetIterable iter c.env=pure) c8):
  WE c (.ListComp elt [⟨target,iter,ifs,0⟩] scope pos) σ X Q:=by
 intro B s Φ Ψ hc hΦ hΨ
 rw[arm_eval_ListComp]
 refine u0 hk hn hd (congrFun hs) hce (use:=none) ?_ hc hΨ
 intro B s Φ' Ψ' hc hΦ' hΨ'
 refine h B s Φ' Ψ' hc (fun I items fp P Sx σ₁ B₁ s₁ hq it gI hle hc₁=>hΦ' I items fp P Sx σ₁ B₁ s₁ ?_ it gI hle hc₁) hΨ'
 obtain⟨h1,h2,CI,h3,h4,h5⟩:=hq
 refine⟨h1,h2,CI,h3,h4 CI fun _ _ _ h=>h,fun ys own B' s' D C m hci hle' hr hc' gC hns h' hsb=>?_⟩
 exact hΦ _ _ _ B' _ (h5 ys own hci) hr hle' (hc'.kept (tk:=s'.toks) fun a o e g=> .of_get ((hsb.2 a fun q=>g (q▸gC)).trans e))
inductive Bu(x:Str):List (Str×Slot)→Prop
 |here {o r}:Bu x ((x,.loc o)::r)
 |skip {p r}:Bu x r→Bu x (p::r)
inductive BB(x:Str):List (Str×Slot)→Prop
 |here {o r}:BB x ((x,.cel o)::r)
 |skip {p r}:BB x r→BB x (p::r)
theorem Bu.mem{x:Str}{l:List (Str×Slot)}(h:Bu x l):∃o,(x,Slot.loc o)∈l:=by
 induction h with
 |here=>exact⟨_,List.mem_cons_self ..⟩
 |skip _ ih=>exact ih.imp fun _=>List.mem_cons_of_mem _
theorem BB.mem{x:Str}{l:List (Str×Slot)}(h:BB x l):∃o,(x,Slot.cel o)∈l:=by
 induction h with
 |here=>exact⟨_,List.mem_cons_self ..⟩
 |skip _ ih=>exact ih.imp fun _=>List.mem_cons_of_mem _
theorem rD{elt:Expr}{gs:List Comprehension}{scope:Scope}{pos p p' :Pos}{x:Str}{Q:Fl→St→Prop}(hx:BB x σ.env)
  (h:WE c (.ListComp elt gs scope pos) σ X (Gv x Q)):W1 c (.Assign [.Name x p'] (.ListComp elt gs scope pos) p) σ X Q:=by
 intro B s Φ Ψ hc hΦ hΨ
 refine aH hc.vars fun m hn hv=>cI hx.mem fun o ho=>?_
 have k:=(hv _ ho).1
 refine rE h ?_ B s Φ Ψ hc hΦ hΨ
 show pure (c.env.blockKind== .function&&c.env.kindOf x==some .local&&p'.line==pos.line&& !(scope.names.any fun q=>q.1==x&&(q.2== .local||q.2== .cell)))=_
 rw[k]
 have:(some NameKind.cell==some NameKind.local)=false:=rfl
 rw[this,Bool.and_false,Bool.false_and,Bool.false_and]
theorem f9{elt target iter:Expr}{ifs:List Expr}{scope:Scope}{pos p p' :Pos}{x:Str}{ce:List (Str×Slot)}{Q:Fl→St→Prop}(hce:c0 σ.env scope.names ce)(hx:Bu x σ.env)
  (h:yC c target elt iter ifs σ ce X (Gv x Q))
  (hu₀:autoParam ((p'.line==pos.line&& !(scope.names.any fun q=>q.1==x&&(q.2== .local||q.2== .cell)))=true) mV)
  (hk:autoParam (scope.kind= .function) c8) (hn:autoParam ((scope.names.map (·.1)).Nodup) mV) (hd:autoParam (∀p∈scope.names,(p.1==("__debug__" :Str))=false) mV) (hs:autoParam (foldedSetIterable iter c.env=pure) c8):
  W1 c (.Assign [.Name x p'] (.ListComp elt [⟨target,iter,ifs,0⟩] scope pos) p) σ X Q:=by
 intro B s Φ Ψ hc hΦ hΨ
 have hu:swapsWith (.ListComp elt [⟨target,iter,ifs,0⟩] scope pos) (some (.Name x p')) p.line c.env=pure true:=by
  refine aH hc.vars fun m hn hv=>cI hx.mem fun o ho=>?_
  have k:c.env.kindOf x=some .local:=(hv _ ho).1
  have kb:c.env.blockKind= .function:=by unfold Env.blockKind;rw[hc.base.ok.kind];rfl
  show pure (c.env.blockKind== .function&&c.env.kindOf x==some .local&&p'.line==pos.line&& !(scope.names.any fun q=>q.1==x&&(q.2== .local||q.2== .cell)))=_
  rw[k,kb,Bool.and_assoc,hu₀]
  rfl
 rw[exec_Assign_Name_used _ _ _ _ hu,arm_evalThenUse_ListComp]
 refine wpAny_bind (wpAny_standAt (wpAny_bind (wpAny_bind (u0 hk hn hd (congrFun hs) hce (use:=some _) ?_ hc hΨ))))
 intro B₀ s₀ Φ' Ψ' hc hΦ' hΨ'
 refine h B₀ s₀ Φ' Ψ' hc (fun I items fp P Sx σ₁ B₁ s₁ hq it gI hle hc₁=>hΦ' I items fp P Sx σ₁ B₁ s₁ ?_ it gI hle hc₁) hΨ'
 obtain⟨h1,h2,CI,h3,h4,h5⟩:=hq
 refine⟨h1,h2,CI,h3,h4 CI fun _ _ _ h=>h,fun ys own B' s' D C m hci hle' hr hc' gC hns=>?_⟩
 refine aH (h5 ys own hci) fun env' hp hq=>cI (id hns) fun oC z0=>cI z0 fun es z2=>?_
 clear z0
 refine dT z2 fun ep eC dC _=>?_
 clear z2
 have hcp:=hc'.pinOn gC eC
 have hcl:∀v,oC.data≠ .cell v:=fun v q=>by rw[dC] at q;cases q
 refine CU (c:=c.pin [(C,oC)]) (Q:=fun σ' =>σ' =⟨env',own⟩) (X:=X) hp rfl B' s' _ _ _ hr hcp (fun _ _ σ₂ B₂ s₂ hq₂ _ hle₂ hc₂=>?_) (fun e s₂ hx=>hΨ _ _ (hx.pinOff hc.base.ok hcl))
 subst hq₂
 have pC:=hc₂.base.pins (C,oC) (List.mem_cons_self ..)
 have hc₃:=hc₂.pinOff hc.base.ok hcl
 have gC₂:aP c ⟨env',own⟩ B₂ C:=Conc.pinGhost hc₂ (List.mem_cons_self ..) gC.1 gC.2.2.2
 refine⟨m,pC.ns eC hns,fun h' hsb=>?_⟩
 exact wpAny_pure (wpAny_pure (hΦ _ _ _ B₂ _ hq .next (hle'.trans hle₂) (hc₃.kept (tk:=s₂.toks) fun a o e g=> .of_get ((hsb.2 a fun q=>g (q▸gC₂)).trans e))))
end
mutual
inductive VS(a:Addr)(X:V):V→V→Prop
 |here:VS a X (.val (.ref a)) X
 |obj {C l l'}:VSs a X l l'→VS a X (.obj C l) (.obj C l')
 |ins {C l}:X= .dct l→VS a X (.ins C a) (.obj C l)
 |keep {x}:VS a X x x
inductive VSs(a:Addr)(X:V):List (Str×V)→List (Str×V)→Prop
 |nil:VSs a X [] []
 |cons {k x y l l'}:VS a X x y→VSs a X l l'→VSs a X ((k,x)::l) ((k,y)::l')
end
section
variable {g:Gx}{B:Fz}{a:Addr}{Y:V}(hY:c5 g B Y (.ref a))
include hY
theorem VS.r1(v)(r:c5 g B (.val (.ref a)) v):c5 g B Y v:=by obtain rfl:=r.inv;exact hY
theorem VS.r2{C l l'}(ih:∀v,RepD g B l v→RepD g B l' v)(v)(r:c5 g B (.obj C l) v):c5 g B (.obj C l') v:=by cases r with|obj a b c d=>exact .obj a b c (ih _ d)
theorem VS.r3{C l}(e:Y= .dct l)(v)(r:c5 g B (.ins C a) v):c5 g B (.obj C l) v:=by
 subst e
 cases hY with
 |dct z a b c=>cases r with|ins q=>exact .obj q a b c
theorem VS.r4{k x y l l'}(i1:∀v,c5 g B x v→c5 g B y v)(i2:∀v,RepD g B l v→RepD g B l' v)(v)(r:RepD g B ((k,x)::l) v):RepD g B ((k,y)::l') v:=by cases r with|cons a b=>exact .cons (i1 _ a) (i2 _ b)
theorem VS.rep{x y v}(h:VS a Y x y)(r:c5 g B x v):c5 g B y v:=
 h.rec (motive_1:=fun x y _=>∀v,c5 g B x v→c5 g B y v) (motive_2:=fun x y _=>∀v,RepD g B x v→RepD g B y v) (VS.r1 hY) (fun _ ih=>VS.r2 hY ih) (fun e=>VS.r3 hY e) (fun _ r=>r) (fun _ r=>r) (fun _ _ i1 i2=>VS.r4 hY i1 i2) v r
end
inductive eM(a:Addr)(X:V):List (Str×Slot)→List (Str×Slot)→Prop
 |nil:eM a X [] []
 |loc {n x y r r'}:VS a X x y→eM a X r r'→eM a X ((n,.loc (some x))::r) ((n,.loc (some y))::r')
 |cel {n x y r r'}:VS a X x y→eM a X r r'→eM a X ((n,.cel (some x))::r) ((n,.cel (some y))::r')
 |fre {n x y r r'}:VS a X x y→eM a X r r'→eM a X ((n,.fre x)::r) ((n,.fre y)::r')
 |keep {p r r'}:eM a X r r'→eM a X (p::r) (p::r')
theorem eM.map{a:Addr}{Y:V}{e e' :List (Str×Slot)}(h:eM a Y e e'):e'.map (·.1)=e.map (·.1):=by
 induction h<;>simp_all
theorem eM.cels{a:Addr}{Y:V}{env:Env}{e e' :List (Str×Slot)}(h:eM a Y e e'):cels env e' =cels env e:=by
 induction h with
 |nil=>rfl
 |keep _ ih=>rename_i p r r' _;exact k6 rfl ih
 |loc _ _ ih|cel _ _ ih|fre _ _ ih=>exact k6 rfl ih
theorem eM.ok{c:Cx}{B:Fz}{h:Heap}{m:Str→Option Value}{a:Addr}{Y:V}(hY:c5 c.g B Y (.ref a)){e e' :List (Str×Slot)}(hs:eM a Y e e')(hv:∀p∈e,lG c B h m p.1 p.2):∀p∈e',lG c B h m p.1 p.2:=by
 induction hs with
 |nil=>exact hv
 |keep _ ih=>
  intro p hp
  rcases List.mem_cons.mp hp with rfl|hp
  ·exact hv _ (List.mem_cons_self ..)
  ·exact ih (fun q hq=>hv q (List.mem_cons_of_mem _ hq)) p hp
 |loc hx _ ih=>
  intro p hp
  rcases List.mem_cons.mp hp with rfl|hp
  ·refine aG (hv _ (List.mem_cons_self ..)) fun k r=>?_
   refine⟨k,fun Z hZ=>?_⟩
   cases hZ
   exact aH (r _ rfl) fun v e r=>⟨v,e,hx.rep hY r⟩
  ·exact ih (fun q hq=>hv q (List.mem_cons_of_mem _ hq)) p hp
 |cel hx _ ih=>
  intro p hp
  rcases List.mem_cons.mp hp with rfl|hp
  ·refine aG (hv _ (List.mem_cons_self ..)) fun k z0=>cJ.e z0 fun b vo e1 e2 r=>?_
   clear z0
   refine⟨k,b,vo,e1,e2,fun Z hZ=>?_⟩
   cases hZ
   exact aH (r _ rfl) fun v e r=>⟨v,e,hx.rep hY r⟩
  ·exact ih (fun q hq=>hv q (List.mem_cons_of_mem _ hq)) p hp
 |fre hx _ ih=>
  intro p hp
  rcases List.mem_cons.mp hp with rfl|hp
  ·refine aG (hv _ (List.mem_cons_self ..)) fun k z0=>gY.e z0 fun b o v e1 e2 e3 r=>?_
   clear z0
   exact⟨k,b,o,v,e1,e2,e3,hx.rep hY r⟩
  ·exact ih (fun q hq=>hv q (List.mem_cons_of_mem _ hq)) p hp
inductive yE(a:Addr)(ov:OV):List (Addr×OV)→List (Addr×OV)→Prop
 |here {r}:yE a ov ((a,ov)::r) r
 |skip {p r r'}:yE a ov r r'→yE a ov (p::r) (p::r')
theorem yE.perm{a:Addr}{ov:OV}{o r:List (Addr×OV)}(h:yE a ov o r):o.Perm ((a,ov)::r):=by
 induction h with
 |here=>exact .refl _
 |skip _ ih=>exact(ih.cons _).trans (List.Perm.swap _ _ _)
inductive lH:OV→V→Prop
 |lst {l}:lH (.lst l) (.lst l)
 |dct {l}:lH (.dct l) (.dct l)
section
variable {c:Cx}{σ:St}{X:Value→St→Prop}{B:Fz}{s:Shared}
theorem Conc.freezeOwn'{a:Addr}{ov:OV}{Y:V}{rest:List (Addr×OV)}{env' :List (Str×Slot)}(hc:Conc c σ B s)(hn:qH c a)(hd:yE a ov σ.own rest)(hf:lH ov Y)(hs:eM a Y σ.env env'):
  ∃B',B.Le B'∧Conc c ⟨env',rest⟩ B' s∧c5 c.g B' Y (.ref a):=by
 have hm:(a,ov)∈σ.own:=hd.perm.mem_iff.mpr (List.mem_cons_self ..)
 refine m7 (hc.base.mt a (bF.own_mem (List.mem_map_of_mem hm))) fun b1 b2 b3 b4=>?_
 have hown:=hc.own _ hm
 refine cI hown.get fun o ho=>?_
 have hBl:=Fz.Le.put o b1
 have hsub:∀p∈rest,p∈σ.own:=fun p hp=>hd.perm.mem_iff.mpr (List.mem_cons_of_mem _ hp)
 have hpm:(bF c σ).Perm (a::bF c ⟨σ.env,rest⟩):=by
  unfold bF
  refine((((hd.perm.map (·.1)).append_left _).cons _).trans ?_)
  simp only[List.map_cons]
  exact((List.perm_middle).cons _).trans (List.Perm.swap _ _ _)
 have nod:(a::bF c ⟨σ.env,rest⟩).Nodup:=hpm.nodup_iff.mp hc.base.nod
 have h1:Conc c ⟨σ.env,rest⟩ B s:=⟨⟨hc.base.ok,hc.base.rest,hc.base.size,hc.base.stay,hc.base.TB,hc.base.frz,hc.base.Bold,hc.base.Bnew,hc.base.pins,hc.base.pfree,(List.nodup_cons.mp nod).2,fun b hb=>hc.base.mt b (hpm.mem_iff.mpr (List.mem_cons_of_mem _ hb))⟩,hc.names,hc.vars,fun p hp=>hc.own p (hsub p hp)⟩
 have h2:=h1.freeze ho b1 hn (List.nodup_cons.mp nod).1 b3
 have hY:c5 c.g (B.put a o) Y (.ref a):=by
  cases hf with
  |lst=>
   refine fT.e hown fun vs n e r=>?_
   clear hown
   rw[ho] at e;cases e
   exact .lst rfl (Fz.put_self _ _ _) rfl rfl (r.mono hBl)
  |dct=>
   refine aG hown fun z z0=>?_
   clear hown
   refine cJ.e z0 fun o' kvs e r q=>?_
   clear z0
   rw[ho] at e;cases e
   exact .dct z (Fz.put_self _ _ _) r (q.mono hBl)
 have hM:bF c ⟨env',rest⟩=bF c ⟨σ.env,rest⟩:=by simp[bF,hs.cels]
 refine⟨_,hBl,⟨by rw[hM];exact h2.base,?_,?_,h2.own⟩,hY⟩
 ·refine⟨by rw[hs.map];exact hc.names.1,fun p hp=>?_⟩
  have:p.1∈σ.env.map (·.1):=by rw[←hs.map];exact List.mem_map_of_mem hp
  refine aH (List.mem_map.mp this) fun q hq e=>?_
  rw[←e];exact hc.names.2 q hq
 ·exact aH h2.vars fun m n v=>⟨m,n,hs.ok hY v⟩
theorem Conc.freezeOwn{a:Addr}{ov:OV}{Y:V}{rest:List (Addr×OV)}{env' :List (Str×Slot)}(hc:Conc c σ B s)(hn:qH c a)(hd:yE a ov σ.own rest)(hf:lH ov Y)(hs:eM a Y σ.env env'):
  ∃B',B.Le B'∧Conc c ⟨env',rest⟩ B' s:=by obtain⟨B',h1,h2,_⟩:=hc.freezeOwn' hn hd hf hs;exact⟨B',h1,h2⟩
theorem WT.frz{α β:Type}{R:Fz→β→α→Prop}{t:Sem α}{Q:β→St→Prop}{a:Addr}{ov:OV}{Y:V}{rest:List (Addr×OV)}{env' :List (Str×Slot)}(hn:qH c a)(hd:yE a ov σ.own rest)(hf:lH ov Y)(hs:eM a Y σ.env env')
  (h:WT c R t ⟨env',rest⟩ X Q):WT c R t σ X Q:=by
 intro B s Φ Ψ hc hΦ hΨ
 exact aH (hc.freezeOwn hn hd hf hs) fun B' hle hc' =>h B' s Φ Ψ hc' (fun v x σ' B'' s' q r hle' hc'' =>hΦ v x σ' B'' s' q r (hle.trans hle') hc'') hΨ
end
section
variable {prog:Program}{w:World}{A:Around}{E:Value→Shared→Prop}{s:Shared}
theorem eO{value slice:Expr}{o i:Value}{T id:String}{ops:List Value}{Q:Value→Shared→Prop}(hT:s.TypeIs o T)
  (hl:typeLookup (.type T) "__getitem__" =pure (some (.builtin id))) (h:wpAny (model prog w) A (getItem o i) Q E s)
  (hs:subscripted slice false o i=operate ops (getItem o i)):wpAny (model prog w) A (subscriptTail value slice o i) Q E s:=by
 unfold subscriptTail
 refine wpAny_bind ?_
 rw[getitemInPython_of_ne hT.not_modules]
 refine wpAny_bind (wpAny_specialOf hT hl ?_)
 have fin:wpAny (model prog w) A (subscripted slice false o i) (fun r s₃=>wpAny (model prog w) A (letTemporaryGo value o r>>= fun _=>pure r) Q E s₃) E s:=by
  rw[hs]
  exact wpAny_operating (wpAny_mono h (fun r s₃ h₃=>wpAny_bind (wpAny_letTemporaryGo (wpAny_pure h₃))) fun _ _ x=>x)
 first
  |exact wpAny_pure (wpAny_bind fin)
  |exact wpAny_bind (wpAny_pure (wpAny_bind fin))
  |exact wpAny_bind fin
end
noncomputable def d6{K:Type}[DecidableEq K](kvs:List (K×V))(k:K)(v:V):List (K×V):=
 if kvs.any (fun kv=>kv.1=k) then kvs.map (fun kv=>if kv.1=k then(kv.1,v) else kv) else kvs++[(k,v)]
noncomputable def aT{K:Type}[DecidableEq K](kvs:List (K×V))(k:K):Option V:=(kvs.find? fun kv=>kv.1=k).map (·.2)
section
variable {g:Gx}{B:Fz}
theorem RepD.keys{l kvs}(r:RepD g B l kvs):kvs.map (·.1)=l.map (·.1):=
 r.ind (P:=fun l kvs=>kvs.map (·.1)=l.map (·.1)) rfl fun{k _ _ _ _} _ _ h=>congrArg (k::·) h
theorem j5.keys{l kvs}(r:j5 g B l kvs):kvs.map (·.1)=l.map (·.1):=
 r.rec (motive:=fun l kvs _=>kvs.map (·.1)=l.map (·.1)) rfl fun{k _ _ _ _} _ _ h=>congrArg (k::·) h
theorem RepD.append{l kvs l' kvs'}(r:RepD g B l kvs)(h:RepD g B l' kvs'):RepD g B (l++l') (kvs++kvs'):=
 r.ind (P:=fun l kvs=>RepD g B (l++l') (kvs++kvs')) h fun a _ b=> .cons a b
theorem j5.append{l kvs l' kvs'}(r:j5 g B l kvs)(h:j5 g B l' kvs'):j5 g B (l++l') (kvs++kvs'):=
 r.rec (motive:=fun l kvs _=>j5 g B (l++l') (kvs++kvs')) h fun a _ b=> .cons a b
theorem RepD.length{l kvs}(h:RepD g B l kvs):kvs.length=l.length:=by simpa using congrArg List.length h.keys
theorem j5.length{l kvs}(h:j5 g B l kvs):kvs.length=l.length:=by simpa using congrArg List.length h.keys
theorem any_map{K:Type}[DecidableEq K](k:K){α:Type}(l:List (K×α)):(l.any fun kv=>decide (kv.1=k))=(l.map (·.1)).any fun x=>decide (x=k):=by rw[List.any_map];rfl
theorem y3{K:Type}[DecidableEq K](k:K){α β:Type}(l:List (K×α))(l' :List (K×β))(h:l.map (·.1)=l'.map (·.1)):(l.any fun kv=>decide (kv.1=k))=l'.any fun kv=>decide (kv.1=k):=by
 rw[any_map,any_map,h]
theorem RepD.store{k:Str}{x:V}{v:Value}(hv:c5 g B x v){l kvs}(h:RepD g B l kvs):RepD g B (d6 l k x) (stored kvs k v):=by
 unfold d6 stored
 rw[y3 k kvs l h.keys]
 split
 ·rename_i q;clear q
  induction l generalizing kvs with
  |nil=>cases h;exact .nil
  |cons p l ih=>
   cases h with
   |cons a r=>
    simp only[List.map_cons]
    split
    ·exact .cons hv (ih r)
    ·exact .cons a (ih r)
 ·exact h.append (.cons hv .nil)
theorem j5.store{k:Int}{x:V}{v:Value}(hv:c5 g B x v){l kvs}(h:j5 g B l kvs):j5 g B (d6 l k x) (stored kvs k v):=by
 unfold d6 stored
 rw[y3 k kvs l h.keys]
 split
 ·rename_i q;clear q
  induction l generalizing kvs with
  |nil=>cases h;exact .nil
  |cons p l ih=>
   cases h with
   |cons a r=>
    simp only[List.map_cons]
    split
    ·exact .cons hv (ih r)
    ·exact .cons a (ih r)
 ·exact h.append (.cons hv .nil)
theorem RepD.at{k:Str}{l kvs}(r:RepD g B l kvs):(aT l k=none∧valueAt kvs k=none)∨cJ (fun x v=>aT l k=some x) (fun x v=>valueAt kvs k=some v) (fun x v=>c5 g B x v):=
 r.ind (P:=fun l kvs=>(aT l k=none∧valueAt kvs k=none)∨cJ (fun x v=>aT l k=some x) (fun x v=>valueAt kvs k=some v) (fun x v=>c5 g B x v)) (.inl ⟨rfl,rfl⟩) fun{k' x v l es} a _ ih=>by
  by_cases e:k' =k
  ·exact .inr ⟨x,v,by simp[aT,e],by simp[valueAt,e],a⟩
  ·simpa [aT,valueAt,e] using ih
theorem j5.at{k:Int}{l kvs}(r:j5 g B l kvs):(aT l k=none∧valueAt kvs k=none)∨cJ (fun x v=>aT l k=some x) (fun x v=>valueAt kvs k=some v) (fun x v=>c5 g B x v):=by
 induction r with
 |nil=>exact .inl ⟨rfl,rfl⟩
 | @cons k' x v l es a _ ih=>
  by_cases e:k' =k
  ·exact .inr ⟨x,v,by simp[aT,e],by simp[valueAt,e],a⟩
  ·simpa [aT,valueAt,e] using ih
end
inductive eV(a:Addr)(ov:OV):List (Addr×OV)→Prop
 |here {r}:eV a ov ((a,ov)::r)
 |skip {p r}:eV a ov r→eV a ov (p::r)
theorem eV.mem{a:Addr}{ov:OV}{l:List (Addr×OV)}(h:eV a ov l):(a,ov)∈l:=by
 induction h with
 |here=>exact List.mem_cons_self ..
 |skip _ ih=>exact List.mem_cons_of_mem _ ih
inductive cM(a:Addr)(ov ov' :OV):List (Addr×OV)→List (Addr×OV)→Prop
 |here {r}:cM a ov ov' ((a,ov)::r) ((a,ov')::r)
 |skip {p r r'}:cM a ov ov' r r'→cM a ov ov' (p::r) (p::r')
theorem cM.keys{a:Addr}{ov ov' :OV}{l l' :List (Addr×OV)}(h:cM a ov ov' l l'):l'.map (·.1)=l.map (·.1):=by
 induction h<;>simp_all
theorem cM.mem{a:Addr}{ov ov' :OV}{l l' :List (Addr×OV)}(h:cM a ov ov' l l'):(a,ov)∈l:=by
 induction h with
 |here=>exact List.mem_cons_self ..
 |skip _ ih=>exact List.mem_cons_of_mem _ ih
theorem cM.of{a:Addr}{ov ov' :OV}{l l' :List (Addr×OV)}(h:cM a ov ov' l l')(hn:(l.map (·.1)).Nodup):∀p∈l',p=(a,ov')∨p∈l∧p.1≠a:=by
 induction h with
 |here=>
  intro p hp
  simp only[List.map_cons,List.nodup_cons] at hn
  rcases List.mem_cons.mp hp with rfl|hp
  ·exact .inl rfl
  ·exact .inr ⟨List.mem_cons_of_mem _ hp,fun e=>hn.1 (e▸List.mem_map_of_mem hp)⟩
 |skip h ih=>
  intro p hp
  simp only[List.map_cons,List.nodup_cons] at hn
  rcases List.mem_cons.mp hp with rfl|hp
  ·exact .inr ⟨List.mem_cons_self ..,fun e=>hn.1 (e▸List.mem_map_of_mem h.mem)⟩
  ·exact(ih hn.2 p hp).imp id fun q=>⟨List.mem_cons_of_mem _ q.1,q.2⟩
section
variable {c:Cx}{σ:St}{X:Value→St→Prop}{B:Fz}{s:Shared}
theorem Conc.putOwn{a:Addr}{ov ov' :OV}{own' :List (Addr×OV)}{h' :Heap}{tk:Nat}(hc:Conc c σ B s)(hp:cM a ov ov' σ.own own')(hs:Heap.SameBut a s.heap h')(hi:f7 c.g B h' a ov'):
  Conc c ⟨σ.env,own'⟩ B {s with heap:=h',toks:=tk}:=by
 have hM:bF c ⟨σ.env,own'⟩=bF c σ:=by simp[bF,hp.keys]
 have ha:a∈σ.own.map (·.1):=List.mem_map_of_mem (f:=(·.1)) hp.mem
 refine j4 (bF.split hc.base.nod) fun n1 n2 n3 n4 n5=>?_
 have hk:∀b o,s.heap.get? b=some o→b≠a→h'.get? b=some o:=fun b o e q=>(hs.2 b q).trans e
 refine⟨by rw[hM];exact hc.base.step (fun b o e hb=>hk b o e fun q=>hb (q▸bF.own_mem ha)) (Nat.le_of_eq hs.1.symm),hc.names,?_,fun p hp' =>?_⟩
 ·refine aH hc.vars fun m n v=>cI (id n) fun o z0=>cI z0 fun es z2=>?_
  clear z0
  refine aH z2 fun ep ho r=>?_
  clear z2
  refine⟨m,⟨o,es,ep,hk _ o ho (fun q=>n2 (q▸ha)),r⟩,fun p hp=>(v p hp).step (Fz.Le.refl B) fun b vo ⟨o',e'⟩ el ic=>?_⟩
  refine aH ic fun oc e1 e2=>?_
  clear ic
  have hac:b∈cels c.env σ.env:=eE el (by rw[←e'];exact hp)
  exact⟨oc,hk b oc e1 (fun q=>n5 b hac (q▸ha)),e2⟩
 ·rcases hp.of n4 p hp' with rfl|⟨h1,h2⟩
  ·exact hi
  ·exact(hc.own p h1).at fun o e=>hk p.1 o e h2
theorem Conc.ownGhost{a:Addr}{ov:OV}(hc:Conc c σ B s)(g:aP c σ B a)(ho:f7 c.g B s.heap a ov):Conc c ⟨σ.env,(a,ov)::σ.own⟩ B s:=by
 refine cI ho.get fun o e=>?_
 have hpm:(a::bF c σ).Perm (bF c ⟨σ.env,(a,ov)::σ.own⟩):=by
  unfold bF
  simp only[List.map_cons]
  exact(List.Perm.swap _ _ _).trans ((List.perm_middle.symm).cons _)
 refine⟨{hc.base with nod:=hpm.nodup_iff.mp (List.nodup_cons.mpr ⟨g.2.1,hc.base.nod⟩),mt:=fun b hb=>?_},hc.names,hc.vars,fun p hp=>?_⟩
 ·rcases List.mem_cons.mp (hpm.mem_iff.mpr hb) with rfl|hb
  ·exact⟨g.2.2.1,.inr g.1,g.2.2.2,Heap.lt_size e⟩
  ·exact hc.base.mt b hb
 ·rcases List.mem_cons.mp hp with rfl|hp
  ·exact ho
  ·exact hc.own p hp
theorem Conc.freshSys(hc:Conc c σ B s):(s.heap.objs.size==sysModules)=false:=by
 refine cI c.g.hg fun o z0=>cI z0 fun es z2=>?_
 clear z0
 refine aH z2 fun ep e _=>?_
 clear z2
 have h1:=Heap.lt_size (hc.topKeeps _ _ e)
 have h2:sysModules<mainGlobals:=by decide
 simp only[beq_eq_false_iff_ne,ne_eq]
 exact fun q=>absurd h1 (by rw[q];exact Nat.not_lt.mpr (Nat.le_of_lt h2))
noncomputable def En(Q:V→St→Prop)(xs:List V)(σ:St):Prop:=xs.length≤sizeLine∧Q (.lst xs) σ
noncomputable def Gq(Q:V→St→Prop)(xs:List V)(σ:St):Prop:=xs.length≤sizeLine∧Q (.tup xs) σ
noncomputable def CZ(c:Cx)(Q:V→St→Prop)(xs:List V)(σ:St):Prop:=xs.length≤sizeLine∧∀a,qH c a→Q (.val (.ref a)) ⟨σ.env,(a,.lst xs)::σ.own⟩
theorem eB{Q:V→St→Prop}{xs:List V}{σ:St}(hz:Nat.ble xs.length sizeLine=true)(h:Q (.lst xs) σ):En Q xs σ:=⟨Nat.le_of_ble_eq_true hz,h⟩
theorem dA{Q:V→St→Prop}{xs:List V}{σ:St}(hz:Nat.ble xs.length sizeLine=true)(h:Q (.tup xs) σ):Gq Q xs σ:=⟨Nat.le_of_ble_eq_true hz,h⟩
theorem Cb{Q:V→St→Prop}{xs:List V}(hz:Nat.ble xs.length sizeLine=true)(h:∀a,qH c a→Q (.val (.ref a)) ⟨σ.env,(a,.lst xs)::σ.own⟩):CZ c Q xs σ:=⟨Nat.le_of_ble_eq_true hz,h⟩
theorem cF{p:Pos}{l:List Expr}{Q:V→St→Prop}(h:hO c p l σ X (En Q)):WE c (.List l p) σ X Q:=by
 intro B s Φ Ψ hc hΦ hΨ
 refine wpAny_List (h B s _ Ψ hc (fun vs xs σ₁ B₁ s₁ hq hr hle hc₁=>?_) hΨ)
 refine aG hq fun hz z0=>?_
 clear hq
 revert z0
 intro hq
 refine aG (hc₁.pushF {cls:= .type "list",data:= .seq vs.toArray} s₁.toks) fun hc₂ hle₂=>?_
 exact⟨by rw[hr.length];exact hz,hΦ _ _ σ₁ _ _ hq (.lst rfl (Fz.put_self _ _ _) rfl rfl (hr.mono hle₂)) (hle.trans hle₂) hc₂⟩
theorem bS{p:Pos}{l:List Expr}{k:Nat}{Q:V→St→Prop}(h:hO c p l σ X (Gq Q)):WE c (.Tuple l k p) σ X Q:=by
 intro B s Φ Ψ hc hΦ hΨ
 refine wpAny_Tuple (h B s _ Ψ hc (fun vs xs σ₁ B₁ s₁ hq hr hle hc₁=>?_) hΨ)
 refine aG hq fun hz z0=>?_
 clear hq
 revert z0
 intro hq
 refine aG (hc₁.pushF {cls:= .type "tuple",data:= .seq vs.toArray} s₁.toks) fun hc₂ hle₂=>?_
 exact⟨by rw[hr.length];exact hz,hΦ _ _ σ₁ _ _ hq (.tup (Fz.put_self _ _ _) rfl rfl (hr.mono hle₂)) (hle.trans hle₂) hc₂⟩
theorem iA{p:Pos}{l:List Expr}{Q:V→St→Prop}(h:hO c p l σ X (CZ c Q)):WE c (.List l p) σ X Q:=by
 intro B s Φ Ψ hc hΦ hΨ
 refine wpAny_List (h B s _ Ψ hc (fun vs xs σ₁ B₁ s₁ hq hr hle hc₁=>?_) hΨ)
 refine aG hq fun hz z0=>?_
 clear hq
 revert z0
 intro hq
 have hc₂:=hc₁.pushO {cls:= .type "list",data:= .seq vs.toArray} (.lst xs) s₁.toks ⟨vs.toArray,_,Heap.get?_push_size _ rfl,hr⟩
 exact⟨by rw[hr.length];exact hz,hΦ _ _ _ _ _ (hq _ hc₁.base.size) .val hle hc₂⟩
theorem vA{p:Pos}{Q:V→St→Prop}(h:∀a,qH c a→Q (.val (.ref a)) ⟨σ.env,(a,.dct [])::σ.own⟩):WE c (.Dict [] [] p) σ X Q:=by
 intro B s Φ Ψ hc hΦ hΨ
 rw[eval_Dict_empty]
 refine wpAny_bind (wpAny_standAt ?_)
 unfold newDict
 refine wpAny_newObj_type ?_
 refine hΦ _ _ _ _ _ (h _ hc.base.size) .val (Fz.Le.refl B) (hc.pushO _ (.dct []) s.toks ?_)
 exact⟨hc.freshSys,_,[],Heap.get?_push_size _ rfl,⟨#[],_,⟨rfl,rfl,rfl⟩,rfl,(fun j hj=>by simp at hj),.nil,List.nodup_nil⟩,.nil⟩
inductive Bs(g:Gx)(B:Fz):List (Str×V)→List (Value×Value)→Prop
 |nil:Bs g B [] []
 |cons {k t x v l es}:c5 g B x v→Bs g B l es→Bs g B ((k,x)::l) ((.str k t,v)::es)
theorem Bs.pairs{g:Gx}{B:Fz}{l es}(r:Bs g B l es):allStrKeys es=true∧RepD g B l (strPairs es)∧es.length=l.length:=by
 induction r with
 |nil=>exact⟨rfl,.nil,rfl⟩
 |cons a _ ih=>exact⟨ih.1,.cons a ih.2.1,congrArg Nat.succ ih.2.2⟩
noncomputable abbrev sE(c:Cx)(p:Pos)(ks:List (Option Expr))(vs:List Expr)(σ:St)(X:Value→St→Prop)(Q:List (Str×V)→St→Prop):Prop:=WT c (Bs c.g) (evalPairs (pairTrees ks vs c.env p)) σ X Q
noncomputable def I3(Q:List (Str×V)→St→Prop)(k:Str)(x:V)(l:List (Str×V))(σ:St):Prop:=Q ((k,x)::l) σ
noncomputable def HH(c:Cx)(X:Value→St→Prop)(p:Pos)(Q:List (Str×V)→St→Prop)(ks:List (Option Expr))(vs:List Expr)(k:Str)(x:V)(σ:St):Prop:=sE c p ks vs σ X (I3 Q k x)
noncomputable def KP(c:Cx)(X:Value→St→Prop)(p:Pos)(Q:List (Str×V)→St→Prop)(v:Expr)(ks:List (Option Expr))(vs:List Expr)(kx:V)(σ:St):Prop:=∃ky,kx= .str ky∧WE c v σ X (HH c X p Q ks vs ky)
theorem kp{p:Pos}{Q:List (Str×V)→St→Prop}{v:Expr}{ks:List (Option Expr)}{vs:List Expr}{ky:Str}(h:WE c v σ X (HH c X p Q ks vs ky)):KP c X p Q v ks vs (.str ky) σ:=⟨ky,rfl,h⟩
theorem cV{p:Pos}{Q:List (Str×V)→St→Prop}(h:Q [] σ):sE c p [] [] σ X Q:=
 fun B s Φ Ψ hc hΦ hΨ=>pairTrees_nil_walk (hΦ _ _ σ B s h .nil (Fz.Le.refl B) hc)
theorem bC{p:Pos}{k v:Expr}{ks:List (Option Expr)}{vs:List Expr}{Q:List (Str×V)→St→Prop}(h:WE c k σ X (KP c X p Q v ks vs)):
  sE c p (some k::ks) (v::vs) σ X Q:=by
 intro B s Φ Ψ hc hΦ hΨ
 refine pairTrees_cons_walk (h B s _ Ψ hc (fun kv kx σ₁ B₁ s₁ hq hr hle hc₁=>?_) hΨ)
 refine cI hq fun ky z0=>?_
 clear hq
 refine aG z0 fun z2 hq=>?_
 clear z0
 subst z2
 obtain⟨_⟩:=hr.inv
 refine hq B₁ s₁ _ Ψ hc₁ (fun v x σ₂ B₂ s₂ hq₂ hr₂ hle₂ hc₂=>?_) hΨ
 exact hq₂ B₂ s₂ _ Ψ hc₂ (fun es l σ₃ B₃ s₃ hq₃ hr₃ hle₃ hc₃=>hΦ _ _ σ₃ B₃ s₃ hq₃ (.cons (hr₂.mono hle₃) hr₃) ((hle.trans hle₂).trans hle₃) hc₃) hΨ
noncomputable def i0{K:Type}[DecidableEq K](kvs more:List (K×V)):List (K×V):=more.foldl (fun acc kv=>d6 acc kv.1 kv.2) kvs
theorem RepD.merge{g:Gx}{B:Fz}{l kvs l₀ kvs₀}(h:RepD g B l₀ kvs₀)(r:RepD g B l kvs):RepD g B (i0 l₀ l) (merged kvs₀ kvs):=
 r.ind (P:=fun l kvs=>∀l₀ kvs₀,RepD g B l₀ kvs₀→RepD g B (i0 l₀ l) (merged kvs₀ kvs)) (fun _ _ h=>h) (fun a _ ih _ _ h=>ih _ _ (h.store a)) _ _ h
noncomputable def I8(c:Cx)(Q:V→St→Prop)(l:List (Str×V))(σ:St):Prop:=∀a,qH c a→Q (.val (.ref a)) ⟨σ.env,(a,.dct (i0 [] l))::σ.own⟩
noncomputable def I9(Q:V→St→Prop)(l:List (Str×V))(σ:St):Prop:=Q (.dct (i0 [] l)) σ
theorem Ap{p:Pos}{ks:List (Option Expr)}{vs:List Expr}{Q:V→St→Prop}(h:∀D o,sE (c.pin [(D,o)]) p ks vs σ X (I8 c Q))
  (hall:autoParam (ks.all (·.isSome)=true) c8) (hl:autoParam (ks.length=vs.length) c8) (h0:autoParam (ks.isEmpty=false) c8) (hlen:autoParam (ks.length≤15) mV):WE c (.Dict ks vs p) σ X Q:=by
 intro B s Φ Ψ hc hΦ hΨ
 refine wpAny_Dict_walk (knd:=PySem.strKind c.g.prog c.g.w) hall hl (fun e=>by rw[e] at h0;cases h0) hlen ?_
 have gD:aP c σ B s.heap.objs.size:=hc.freshGhost
 have eD:(s.heap.push {cls:= .type "dict",data:= .dict #[]}).get? s.heap.objs.size=some {cls:= .type "dict",data:= .dict #[]}:=Heap.get?_push_size _ rfl
 have hcp:=(hc.push {cls:= .type "dict",data:= .dict #[]} s.toks).pinOn gD eD
 have hcl:∀v,({cls:= .type "dict",data:= .dict #[]}:Obj).data≠ .cell v:=fun v q=>by cases q
 refine h _ _ B _ _ Ψ hcp (fun es l σ₁ B₁ s₁ hq hr hle hc₁=>?_) (fun e s' hx=>hΨ _ _ (hx.pinOff hc.base.ok hcl))
 refine eT hr.pairs fun h1 h2 h3=>?_
 have pD:=hc₁.base.pins (_,_) (List.mem_cons_self ..)
 have gD₁:aP c σ₁ B₁ s.heap.objs.size:=Conc.pinGhost hc₁ (List.mem_cons_self ..) gD.1 gD.2.2.2
 have hc₂:=hc₁.pinOff hc.base.ok hcl
 have eD₁:=pD.exact fun hF=>hc₂.frameGhost _ hF gD₁
 refine⟨_,carries_strPairs c.g.prog c.g.w es h1,⟨_, #[],_,eD₁,⟨rfl,rfl,rfl⟩,rfl,(fun j hj=>by simp at hj),.nil,List.nodup_nil⟩,fun h' hd hsb=>?_⟩
 have hc₃:Conc c σ₁ B₁ {s₁ with heap:=h',toks:=s₁.toks+es.length}:=hc₂.kept (tk:=s₁.toks+es.length) fun a o e g=> .of_get ((hsb.2 a fun q=>g (q▸gD₁)).trans e)
 exact aH (mQ.of hd) fun o eo od=>hΦ _ _ _ _ _ (hq _ gD.1) .val hle (hc₃.ownGhost gD₁ ⟨hc.freshSys,o,_,eo,od,RepD.merge .nil h2⟩)
theorem WV.frz{t:Sem Value}{Q:V→St→Prop}(h:WV c t σ X fun v σ₁=>sZ (fun a ov Y v' rest env' =>qH c a) (fun a ov Y v' rest env' =>yE a ov σ₁.own rest) (fun a ov Y v' rest env' =>lH ov Y) (fun a ov Y v' rest env' =>eM a Y σ₁.env env') (fun a ov Y v' rest env' =>VS a Y v v') (fun a ov Y v' rest env' =>Q v' ⟨env',rest⟩)):WV c t σ X Q:=by
 intro B s Φ Ψ hc hΦ hΨ
 refine h B s Φ Ψ hc (fun v x σ₁ B₁ s₁ hq hr hle hc₁=>?_) hΨ
 refine sZ.e hq fun a ov Y v' rest env' h1 h2 h3 h4 h5 h6=>?_
 clear hq
 exact dT (hc₁.freezeOwn' h1 h2 h3 h4) fun B₂ hle₂ hc₂ hY=>hΦ _ _ _ B₂ s₁ h6 (h5.rep hY (hr.mono hle₂)) (hle.trans hle₂) hc₂
theorem eM.same{a:Addr}{Y:V}:∀{l},eM a Y l l
 | []=> .nil
 |_::_=> .keep eM.same
theorem fF{p:Pos}{ks:List (Option Expr)}{vs:List Expr}{Q:V→St→Prop}(h:∀D o,sE (c.pin [(D,o)]) p ks vs σ X (I9 Q))
  (hall:autoParam (ks.all (·.isSome)=true) c8) (hl:autoParam (ks.length=vs.length) c8) (h0:autoParam (ks.isEmpty=false) c8) (hlen:autoParam (ks.length≤15) mV):WE c (.Dict ks vs p) σ X Q:=
 WV.frz (Ap (fun D o=>(h D o).mono fun l σ₁ hq a hn=>⟨a,_,_,_,σ₁.own,σ₁.env,hn,.here,.dct,.same,.here,hq⟩) hall hl h0 hlen)
end
section
variable {c:Cx}{σ:St}{X:Value→St→Prop}{B:Fz}{s:Shared}{l r:Expr}
noncomputable def jD(r:Expr):Prop:=∀o i,subscripted r false o i=operate [o,i] (getItem o i)
theorem Reps.set{g:Gx}{B:Fz}{x:V}{v:Value}(hv:c5 g B x v){xs vs}{i:Nat}(r:Reps g B xs vs):Reps g B (xs.set i x) (vs.set i v):=
 r.ind (P:=fun xs vs=>∀i,Reps g B (xs.set i x) (vs.set i v)) (fun _=> .nil) (fun a r ih i=>by
  cases i with
  |zero=>exact .cons hv r
  |succ i=>exact .cons a (ih i)) i
theorem cD{xs:List V}{i:Int}{j:Nat}{x:V}{Q:V→St→Prop}(hj:seqIndex? i xs.length=some j)(hx:xs[j]? =some x)(hlo: -(2^63)≤i)(hhi:i<2^63)(h:Q x σ)(hs:jD r:=by intro _ _;rfl):
  iX c (subscriptTail l r) (.tup xs) (.int i) σ X Q:=by
 rintro B s ⟨u,v⟩ Φ Ψ ⟨hu,hv⟩ hc hΦ hΨ
 obtain⟨a,o,vs,n,h1,h2,h3,h4⟩:=hu.inv
 obtain⟨_⟩:=hv.inv
 have ht:s.heap.IsTuple a vs:=⟨o,hc.base.frz _ _ h1,h2,n,h3⟩
 refine aH (h4.get hx) fun w hw hr=>?_
 have hsz:vs.size=xs.length:=by rw[←Array.length_toList];exact h4.length
 refine eO (IsTup.typeIs ht) slot_tuple_getitem.lookup (getItem_tuple ht hlo hhi (by rw[hsz];exact hj) (by simpa using hw) (hΦ _ _ σ B s h hr (Fz.Le.refl B) hc)) (hs _ _)
theorem kU{prog:Program}{w:World}{A:Around}{E:Value→Shared→Prop}{s:Shared}{a:Addr}{vs:Array Value}{i:Int}{t:Tok}{j:Nat}{x:Value}{Q:Value→Shared→Prop}(hl:s.heap.IsList a vs)(hj:seqIndex? i vs.size=some j)(hx:vs[j]? =some x)(hlo: -(2^63)≤i)(hhi:i<2^63)(h:Q x s):
  wpAny (model prog w) A (getItem (.ref a) (.int i t)) Q E s:=by
 have hj' :(i<0∧0≤i+vs.size∧i+vs.size<vs.size∧j=(i+vs.size).toNat)∨(¬i<0∧0≤i∧i<vs.size∧j=i.toNat):=by
  by_cases h0:i<0
  ·simp only[seqIndex?,h0,if_true] at hj
   split at hj
   ·rename_i q;simp only[Bool.and_eq_true,decide_eq_true_eq] at q;cases hj;exact .inl ⟨h0,q.1,q.2,rfl⟩
   ·cases hj
  ·simp only[seqIndex?,h0,if_false] at hj
   split at hj
   ·rename_i q;simp only[Bool.and_eq_true,decide_eq_true_eq] at q;cases hj;exact .inr ⟨h0,q.1,q.2,rfl⟩
   ·cases hj
 rcases hj' with⟨h0,h1,h2,rfl⟩|⟨h0,h1,h2,rfl⟩
 ·exact wpAny_getItem_list_neg hl h0 (by exact aB [_] [_] (.le (.n 0) (.a .w (.c .w))) 1 (.le (.g (.c .w)) .w) 0 qq h1) hlo hx h
 ·exact wpAny_getItem_list hl h1 hhi hx h
theorem o_item_lst{xs:List V}{i:Int}{j:Nat}{x:V}{Q:V→St→Prop}(hj:seqIndex? i xs.length=some j)(hx:xs[j]? =some x)(hlo: -(2^63)≤i)(hhi:i<2^63)(h:Q x σ)(hs:jD r:=by intro _ _;rfl):
  iX c (subscriptTail l r) (.lst xs) (.int i) σ X Q:=by
 rintro B s ⟨u,v⟩ Φ Ψ ⟨hu,hv⟩ hc hΦ hΨ
 obtain⟨a,o,vs,n,_,h1,h2,h3,h4⟩:=hu.inv
 obtain⟨_⟩:=hv.inv
 have ht:s.heap.IsList a vs:=⟨o,hc.base.frz _ _ h1,h2,n,h3⟩
 refine aH (h4.get hx) fun w hw hr=>?_
 have hsz:vs.size=xs.length:=by rw[←Array.length_toList];exact h4.length
 exact eO ht.typeIs slot_list_getitem.lookup (kU ht (by rw[hsz];exact hj) (by simpa using hw) hlo hhi (hΦ _ _ σ B s h hr (Fz.Le.refl B) hc)) (hs _ _)
theorem dX{a:Addr}{xs:List V}{i:Int}{j:Nat}{x:V}{Q:V→St→Prop}(ho:eV a (.pen xs) σ.own)(hj:seqIndex? i xs.length=some j)(hx:xs[j]? =some x)(hlo: -(2^63)≤i)(hhi:i<2^63)(h:Q x σ)(hs:jD r:=by intro _ _;rfl):
  iX c (subscriptTail l r) (.val (.ref a)) (.int i) σ X Q:=by
 rintro B s ⟨u,v⟩ Φ Ψ ⟨hu,hv⟩ hc hΦ hΨ
 obtain rfl:=hu.inv
 obtain⟨_⟩:=hv.inv
 refine aH (hc.own _ ho.mem) fun vs ht h4=>aH (h4.get hx) fun w hw hr=>?_
 have hsz:vs.size=xs.length:=by rw[←Array.length_toList];exact h4.length
 exact eO ht.typeIs slot_list_getitem.lookup (kU ht (by rw[hsz];exact hj) (by simpa using hw) hlo hhi (hΦ _ _ σ B s h hr (Fz.Le.refl B) hc)) (hs _ _)
theorem fG{x:Str}{i:Int}{ch:Nat}{Q:V→St→Prop}(hlo: -(2^63)≤i)(hhi:i<2^63)(hx:(seqIndex? i x.length).bind (x.cps[·]?)=some ch)(h:Q (.str ⟨#[ch]⟩) σ)(hs:jD r:=by intro _ _;rfl):
  iX c (subscriptTail l r) (.str x) (.int i) σ X Q:=by
 rintro B s ⟨u,v⟩ Φ Ψ ⟨hu,hv⟩ hc hΦ hΨ
 obtain⟨t⟩:=hu.inv
 obtain⟨_⟩:=hv.inv
 refine eO (typeIs_str _ _ _) F.slot_str_getitem.lookup (getItem_gives (typeIs_str _ _ _) (by decide) F.slot_str_getitem F.entry_str_getitem (F.args_str_getitem_2 _ _) (gives_str_getitem x i t _ ch ?_ hx) ?_) (hs _ _)
 ·simp only[Bool.or_eq_false_iff,decide_eq_false_iff_not];exact⟨aB [] [_] (.le (.g (.n 9223372036854775808)) .w) 1 (.nlt .w (.g (.n 9223372036854775808))) 0 qq hlo,aB [] [_] (.lt .w (.n 9223372036854775808)) 1 (.nle (.n 9223372036854775808) .w) 0 qq hhi⟩
 ·exact⟨(show 1≤sizeLine by decide),hΦ _ _ σ B _ h .str (Fz.Le.refl B) (hc.toks _)⟩
theorem nA{x:Array UInt8}{i:Int}{ch:UInt8}{Q:V→St→Prop}(hf:Builtin.Bytes.fitsIndex i=true)(hx:(seqIndex? i x.size).bind (x[·]?)=some ch)(h:Q (.int ch.toNat) σ)(hs:jD r:=by intro _ _;rfl):
  iX c (subscriptTail l r) (.bytes x) (.int i) σ X Q:=by
 rintro B s ⟨u,v⟩ Φ Ψ ⟨hu,hv⟩ hc hΦ hΨ
 obtain⟨t⟩:=hu.inv
 obtain⟨_⟩:=hv.inv
 refine eO (typeIs_bytes _ _ _) FB.slot_bytes_getitem.lookup (getItem_gives (typeIs_bytes _ _ _) (by decide) FB.slot_bytes_getitem FB.entry_bytes_getitem (FB.args_bytes_getitem_2 _ _) (gives_bytes_getitem x i t _ ch hf hx) ?_) (hs _ _)
 exact hΦ _ _ σ B _ h .int (Fz.Le.refl B) (hc.toks _)
theorem iQ{kvs:List (Str×V)}{k:Str}{x:V}{Q:V→St→Prop}(hx:aT kvs k=some x)(h:Q x σ)(hs:jD r:=by intro _ _;rfl):
  iX c (subscriptTail l r) (.dct kvs) (.str k) σ X Q:=by
 rintro B s ⟨u,v⟩ Φ Ψ ⟨hu,hv⟩ hc hΦ hΨ
 obtain⟨a,o,es,hz,h1,h2,h3⟩:=hu.inv
 obtain⟨t⟩:=hv.inv
 have hd:=h2.at (hc.base.frz _ _ h1)
 rcases h3.at (k:=k) with⟨q,_⟩|⟨y,w,e1,e2,hr⟩
 ·rw[hx] at q;cases q
 ·rw[hx] at e1;cases e1
  refine eO hd.typeIs slot_dict_getitem.lookup (wpAny_getItem_of (k:=k) (by simp[PySem.strKind,Value.isStrOf]) hd.mapOf e2 ?_) (hs _ _)
  exact hΦ _ _ σ B _ h hr (Fz.Le.refl B) (hc.toks _)
theorem j7{a:Addr}{kvs:List (Str×V)}{k:Str}{x:V}{Q:V→St→Prop}(ho:eV a (.dct kvs) σ.own)(hx:aT kvs k=some x)(h:Q x σ)(hs:jD r:=by intro _ _;rfl):
  iX c (subscriptTail l r) (.val (.ref a)) (.str k) σ X Q:=by
 rintro B s ⟨u,v⟩ Φ Ψ ⟨hu,hv⟩ hc hΦ hΨ
 obtain rfl:=hu.inv
 obtain⟨t⟩:=hv.inv
 refine aG (hc.own _ ho.mem) fun hz z0=>cJ.e z0 fun o es h1 h2 h3=>?_
 clear z0
 have hd:=h2.at h1
 rcases h3.at (k:=k) with⟨q,_⟩|⟨y,w,e1,e2,hr⟩
 ·rw[hx] at q;cases q
 ·rw[hx] at e1;cases e1
  refine eO hd.typeIs slot_dict_getitem.lookup (wpAny_getItem_of (k:=k) (by simp[PySem.strKind,Value.isStrOf]) hd.mapOf e2 ?_) (hs _ _)
  exact hΦ _ _ σ B _ h hr (Fz.Le.refl B) (hc.toks _)
theorem eH{o i value:Expr}{p' p:Pos}{Q:Fl→St→Prop}
  (h:WE c value σ X fun v σ₁=>WE c o σ₁ X fun ov σ₂=>WE c i σ₂ X fun iv σ₃=>
   ∃a,ov= .val (.ref a)∧((y8 (fun xs k own' =>iv= .int k) (fun xs k own' =>0≤k) (fun xs k own' =>k<xs.length) (fun xs k own' =>k<2^63) (fun xs k own' =>cM a (.pen xs) (.pen (xs.set k.toNat v)) σ₃.own own') (fun xs k own' =>Q .next ⟨σ₃.env,own'⟩))∨(gY (fun kvs k own' =>iv= .str k) (fun kvs k own' =>kvs.length≤sizeLine) (fun kvs k own' =>cM a (.dct kvs) (.dct (d6 kvs k v)) σ₃.own own') (fun kvs k own' =>Q .next ⟨σ₃.env,own'⟩))∨(gY (fun kvs k own' =>iv= .int k) (fun kvs k own' =>kvs.length≤sizeLine) (fun kvs k own' =>cM a (.idct kvs) (.idct (d6 kvs k v)) σ₃.own own') (fun kvs k own' =>Q .next ⟨σ₃.env,own'⟩))))
  (hs:autoParam (swapsWith value (some (.Subscript o i p')) p.line c.env=pure false) c8):W1 c (.Assign [.Subscript o i p'] value p) σ X Q:=by
 intro B s Φ Ψ hc hΦ hΨ
 refine wpAny_Assign_Subscript (h B s _ Ψ hc (fun v x σ₁ B₁ s₁ hq hr hle hc₁=>hq B₁ s₁ _ Ψ hc₁ (fun ow ov σ₂ B₂ s₂ hq₂ hr₂ hle₂ hc₂=>hq₂ B₂ s₂ _ Ψ hc₂ (fun iw iv σ₃ B₃ s₃ hq₃ hr₃ hle₃ hc₃=>?_) hΨ) hΨ) hΨ) hs
 have hv:=hr.mono (hle₂.trans hle₃)
 have hle' :=(hle.trans hle₂).trans hle₃
 refine cI hq₃ fun a z0=>?_
 clear hq₃
 refine aG z0 fun z2 hq₃=>?_
 clear z0
 subst z2
 obtain rfl:=hr₂.inv
 rcases hq₃ with⟨xs,k,own',rfl,h0,h1,h2,hp,hq⟩|⟨kvs,k,own',rfl,hz,hp,hq⟩|⟨kvs,k,own',rfl,hz,hp,hq⟩
 ·obtain⟨_⟩:=hr₃.inv
  refine aH (hc₃.own _ hp.mem) fun vs ht h4=>?_
  have hsz:vs.size=xs.length:=by rw[←Array.length_toList];exact h4.length
  refine wpAny_setItem_list ht h0 h2 (by rw[hsz];exact h1) fun h' hl hsb=>?_
  refine hΦ _ _ _ B₃ _ hq .next hle' (hc₃.putOwn (tk:=s₃.toks) hp hsb ⟨_,hl,?_⟩)
  rw[Array.toList_setIfInBounds]
  exact h4.set hv
 ·obtain⟨t⟩:=hr₃.inv
  refine aG (hc₃.own _ hp.mem) fun hy z0=>cJ.e z0 fun o es e1 e2 e3=>?_
  clear z0
  refine wpAny_setItem_pairs (k:=k) (by simp[PySem.strKind,Value.isStrOf]) (e2.at e1) (fun h' hd hsb=>?_) (by rw[e3.length];exact hz)
  exact aH (mQ.of hd) fun o' eo od=>hΦ _ _ _ B₃ _ hq .next hle' (hc₃.putOwn hp hsb ⟨hy,o',_,eo,od,e3.store hv⟩)
 ·obtain⟨t⟩:=hr₃.inv
  refine aG (hc₃.own _ hp.mem) fun hy z0=>cJ.e z0 fun o es e1 e2 e3=>?_
  clear z0
  refine wpAny_setItem_pairs (k:=k) (by simp[PySem.intKind,Value.isInt]) (e2.at e1) (fun h' hd hsb=>?_) (by rw[e3.length];exact hz)
  exact aH (mQ.of hd) fun o' eo od=>hΦ _ _ _ B₃ _ hq .next hle' (hc₃.putOwn hp hsb ⟨hy,o',_,eo,od,e3.store hv⟩)
end
noncomputable def pick{α:Type}(l:List α)(lo hi:Option Int):List α:=(sliceRange (sliceBounds lo hi none l.length).1 (sliceBounds lo hi none l.length).2.1 (sliceBounds lo hi none l.length).2.2).filterMap (l[·]?)
theorem Reps.pick{g:Gx}{B:Fz}{xs:List V}{vs:List Value}(h:Reps g B xs vs)(lo hi:Option Int):Reps g B (pick xs lo hi) (pick vs lo hi):=by
 unfold Mine.pick
 rw[h.length]
 generalize sliceRange _ _ _=js
 induction js with
 |nil=>exact .nil
 |cons j js ih=>
  simp only[List.filterMap_cons]
  cases e:xs[j]? with
  |none=>
   have:vs[j]? =none:=by
    rw[List.getElem?_eq_none_iff] at e ⊢
    rw[h.length];exact e
   rw[this];exact ih
  |some x=>
   refine aH (h.get e) fun v ev r=>?_
   rw[ev];exact .cons r ih
theorem jR(vs:Array Value)(lo hi:Option Int):(slicePick vs lo hi none).toList=pick vs.toList lo hi:=by
 simp[slicePick,Mine.pick]
section
variable {c:Cx}{σ:St}{X:Value→St→Prop}
noncomputable abbrev Aw(c:Cx)(o:Option Expr)(σ:St)(X:Value→St→Prop)(Q:Option Int→St→Prop):Prop:=WT c (fun _ k v=>IsPart v k) (evalPart o c.env) σ X Q
theorem jU{Q:Option Int→St→Prop}(h:Q none σ):Aw c none σ X Q:=fun B s Φ Ψ hc hΦ hΨ=>wpAny_pure (hΦ _ _ σ B s h .none (Fz.Le.refl B) hc)
noncomputable def El(Q:Option Int→St→Prop)(x:V)(σ:St):Prop:=∃k,x= .int k∧Q (some k) σ
theorem nE{Q:Option Int→St→Prop}{k:Int}{σ:St}(h:Q (some k) σ):El Q (.int k) σ:=⟨k,rfl,h⟩
theorem eX{e:Expr}{Q:Option Int→St→Prop}(h:WE c e σ X (El Q)):Aw c (some e) σ X Q:=fun B s Φ Ψ hc hΦ hΨ=>
 h B s Φ Ψ hc (fun v x σ₁ B₁ s₁ hq hr hle hc₁=>by
  refine cI hq fun k z0=>?_
  clear hq
  refine aG z0 fun z2 hq=>?_
  clear z0
  subst z2
  obtain⟨_⟩:=hr.inv
  exact hΦ _ _ σ₁ B₁ s₁ hq (.int ..) hle hc₁) hΨ
inductive qW(lo hi:Option Int):V→V→Prop
 |lst {xs}:xs.length≤sizeLine→qW lo hi (.lst xs) (.lst (pick xs lo hi))
 |str {x}:x.length≤sizeLine→qW lo hi (.str x) (.str (Txt.slice x lo hi))
 |bytes {b}:b.size≤sizeLine→qW lo hi (.bytes b) (.bytes (KBy.picked b lo hi))
theorem IsPart.val{v:Value}{k:Option Int}(h:IsPart v k):∃p:Option (Int×Tok),v=partValue p∧p.map (·.1)=k:=by
 cases h with
 |none=>exact⟨none,rfl,rfl⟩
 |int i t=>exact⟨some (i,t),rfl,rfl⟩
noncomputable def Hj(Q:V→St→Prop)(o:V)(lo hi:Option Int)(σ:St):Prop:=∃r,qW lo hi o r∧Q r σ
noncomputable def Hk(c:Cx)(X:Value→St→Prop)(Q:V→St→Prop)(upper:Option Expr)(o:V)(lo:Option Int)(σ:St):Prop:=Aw c upper σ X (Hj Q o lo)
noncomputable def I2(c:Cx)(X:Value→St→Prop)(Q:V→St→Prop)(lower upper:Option Expr)(o:V)(σ:St):Prop:=Aw c lower σ X (Hk c X Q upper o)
theorem kK{value:Expr}{lower upper:Option Expr}{sp p:Pos}{Q:V→St→Prop}
  (h:WE c value σ X (I2 c X Q lower upper)):WE c (.Subscript value (.Slice lower upper none sp) p) σ X Q:=by
 intro B s Φ Ψ hc hΦ hΨ
 refine Subscript_ (h B s _ Ψ hc (fun ov o σ₁ B₁ s₁ hq hr hle hc₁=>wpAny_Slice (hq B₁ s₁ _ Ψ hc₁ (fun vl lo σ₂ B₂ s₂ hq₂ pl hle₂ hc₂=>hq₂ B₂ s₂ _ Ψ hc₂ (fun vu hi σ₃ B₃ s₃ hq₃ pu hle₃ hc₃=>wpAny_pure ?_) hΨ) hΨ)) hΨ)
 refine aH hq₃ fun r hs hq=>?_
 clear hq₃
 have hr' :=hr.mono (hle₂.trans hle₃)
 have hle' :=(hle.trans hle₂).trans hle₃
 have hc₄:=hc₃.push {cls:= .type "slice",data:= .fields #[vl,vu,.none]} s₃.toks
 have hsl:=Heap.IsSliceOf.new s₃.heap vl vu .none
 cases hs with
 |lst hz=>
  obtain⟨a,ob,vs,n,_,h1,h2,h3,h4⟩:=hr'.inv
  have ht:(s₃.heap.push {cls:= .type "slice",data:= .fields #[vl,vu,.none]}).IsList a vs:=⟨ob,hc₄.base.frz _ _ h1,h2,n,h3⟩
  refine aG (hc₄.pushF {cls:= .type "list",data:= .seq (slicePick vs lo hi none)} s₃.toks) fun hc₅ hle₅=>?_
  refine eO ht.typeIs list_getitem_lookup (wpAny_getItem_list_slice ht hsl pl pu .none (by simp) ?_ (by rw[←Array.length_toList,h4.length];exact hz)) rfl
  refine hΦ _ _ σ₃ _ _ hq (.lst rfl (Fz.put_self _ _ _) rfl rfl ?_) (hle'.trans hle₅) hc₅
  rw[jR]
  exact(h4.pick lo hi).mono hle₅
 | @str x hz=>
  obtain⟨t⟩:=hr'.inv
  refine aH (IsPart.val pl) fun pl' z2 e1=>?_
  subst z2
  refine aH (IsPart.val pu) fun pu' z2 e2=>?_
  subst z2
  subst e1;subst e2
  have key:∀t' k,Φ (.str (Txt.slice x (pl'.map (·.1)) (pu'.map (·.1))) t') {s₃ with heap:=s₃.heap.push {cls:= .type "slice",data:= .fields #[partValue pl',partValue pu',.none]},toks:=k}:=fun t' k=>hΦ _ _ σ₃ B₃ _ hq .str hle' (hc₄.toks k)
  refine eO (typeIs_str _ _ _) F.slot_str_getitem.lookup (wpAny_getItem_str_slice (l:=pl') (u:=pu') (st:=none) ⟨_,Heap.get?_push_size _ rfl,rfl,rfl⟩ rfl ?_) rfl
  exact post_val_or_str ⟨Nat.le_trans (Txt.slice_le x _ _) hz,key⟩
 | @bytes b hz=>
  obtain⟨t⟩:=hr'.inv
  refine eO (typeIs_bytes _ _ _) FB.slot_bytes_getitem.lookup (getItem_meets (typeIs_bytes _ _ _) (by decide) FB.slot_bytes_getitem FB.entry_bytes_getitem (FB.args_bytes_getitem_2 _ _) (KBc.meets_slice2 b t _ pl pu)
   ⟨hsl,Nat.le_trans (KBc.size_picked_le b lo hi) hz,fun t' k=>?_⟩) rfl
  exact hΦ _ _ σ₃ B₃ _ hq .bytes hle' (hc₄.toks k)
end
section
open PySem.SeqAt
noncomputable def V.strs(ys:List Str):List V:=ys.map V.str
theorem Reps.strs{g:Gx}{B:Fz}{ys:List Str}:∀{vs},Reps g B (V.strs ys) vs→StrsAre vs ys:=by
 induction ys with
 |nil=>intro vs h;cases h;exact .nil
 |cons y ys ih=>intro vs h;cases h with|cons a r=>obtain⟨_⟩:=a.inv;exact .cons _ _ (ih r)
section
variable {c:Cx}{σ:St}{X:Value→St→Prop}{Q:V→St→Prop}
theorem pQ{x y:Str}(h:Q (.bool (!Txt.contains x y)) σ):iX c (compareOp .NotIn) (.str y) (.str x) σ X Q:=by
 rintro B s ⟨u,v⟩ Φ Ψ ⟨hu,hv⟩ hc hΦ hΨ
 obtain⟨_⟩:=hu.inv;obtain⟨_⟩:=hv.inv
 exact SB.notContains (hΦ _ _ σ B _ h .bool (Fz.Le.refl B) hc)
theorem C2{x:Str}{ys:List Str}(h:Q (.bool (ys.any (·==x))) σ):iX c (compareOp .In) (.str x) (.tup (V.strs ys)) σ X Q:=by
 rintro B s ⟨u,v⟩ Φ Ψ ⟨hu,hv⟩ hc hΦ hΨ
 obtain⟨_⟩:=hu.inv
 obtain⟨a,o,vs,n,h1,h2,h3,h4⟩:=hv.inv
 exact in_tuple_strs ⟨o,hc.base.frz _ _ h1,h2,n,h3⟩ h4.strs (hΦ _ _ σ B _ h .bool (Fz.Le.refl B) hc)
theorem pP{x:Str}{ys:List Str}(h:Q (.bool (!ys.any (·==x))) σ):iX c (compareOp .NotIn) (.str x) (.tup (V.strs ys)) σ X Q:=by
 rintro B s ⟨u,v⟩ Φ Ψ ⟨hu,hv⟩ hc hΦ hΨ
 obtain⟨_⟩:=hu.inv
 obtain⟨a,o,vs,n,h1,h2,h3,h4⟩:=hv.inv
 exact notin_tuple_strs ⟨o,hc.base.frz _ _ h1,h2,n,h3⟩ h4.strs (hΦ _ _ σ B _ h .bool (Fz.Le.refl B) hc)
theorem C3{x:Str}{ys:List Str}(h:Q (.bool (ys.any (·==x))) σ):iX c (compareOp .In) (.str x) (.lst (V.strs ys)) σ X Q:=by
 rintro B s ⟨u,v⟩ Φ Ψ ⟨hu,hv⟩ hc hΦ hΨ
 obtain⟨_⟩:=hu.inv
 obtain⟨a,o,vs,n,_,h1,h2,h3,h4⟩:=hv.inv
 exact in_list_strs ⟨o,hc.base.frz _ _ h1,h2,n,h3⟩ h4.strs (hΦ _ _ σ B _ h .bool (Fz.Le.refl B) hc)
theorem k8{g:Gx}{B:Fz}{k:Str}{l:List (Str×V)}{kvs:List (Str×Value)}(h:RepD g B l kvs):(valueAt kvs k).isSome=(aT l k).isSome:=by
 rcases h.at (k:=k) with⟨a,b⟩|⟨x,v,a,b,_⟩<;>rw[a,b]<;>rfl
theorem sK{g:Gx}{B:Fz}{k:Int}{l:List (Int×V)}{kvs:List (Int×Value)}(h:j5 g B l kvs):(valueAt kvs k).isSome=(aT l k).isSome:=by
 rcases h.at (k:=k) with⟨a,b⟩|⟨x,v,a,b,_⟩<;>rw[a,b]<;>rfl
theorem wU{k:Str}{kvs:List (Str×V)}(h:Q (.bool (aT kvs k).isSome) σ):iX c (compareOp .In) (.str k) (.dct kvs) σ X Q:=by
 rintro B s ⟨u,v⟩ Φ Ψ ⟨hu,hv⟩ hc hΦ hΨ
 obtain⟨t⟩:=hu.inv
 obtain⟨a,o,es,hz,h1,h2,h3⟩:=hv.inv
 have hd:=h2.at (hc.base.frz _ _ h1)
 exact wpAny_in_of (k:=k) (by simp[PySem.strKind,Value.isStrOf]) hz hd.mapOf (by rw[k8 h3];exact hΦ _ _ σ B _ h .bool (Fz.Le.refl B) (hc.toks _))
theorem wT{k:Str}{kvs:List (Str×V)}(h:Q (.bool (!(aT kvs k).isSome)) σ):iX c (compareOp .NotIn) (.str k) (.dct kvs) σ X Q:=by
 rintro B s ⟨u,v⟩ Φ Ψ ⟨hu,hv⟩ hc hΦ hΨ
 obtain⟨t⟩:=hu.inv
 obtain⟨a,o,es,hz,h1,h2,h3⟩:=hv.inv
 have hd:=h2.at (hc.base.frz _ _ h1)
 exact wpAny_notIn_of (k:=k) (by simp[PySem.strKind,Value.isStrOf]) hz hd.mapOf (by rw[k8 h3];exact hΦ _ _ σ B _ h .bool (Fz.Le.refl B) (hc.toks _))
theorem lO{a:Addr}{k:Str}{kvs:List (Str×V)}(ho:eV a (.dct kvs) σ.own)(h:Q (.bool (aT kvs k).isSome) σ):iX c (compareOp .In) (.str k) (.val (.ref a)) σ X Q:=by
 rintro B s ⟨u,v⟩ Φ Ψ ⟨hu,hv⟩ hc hΦ hΨ
 obtain⟨t⟩:=hu.inv
 obtain rfl:=hv.inv
 refine aG (hc.own _ ho.mem) fun hz z0=>cJ.e z0 fun o es h1 h2 h3=>?_
 clear z0
 exact wpAny_in_of (k:=k) (by simp[PySem.strKind,Value.isStrOf]) hz (h2.at h1).mapOf (by rw[k8 h3];exact hΦ _ _ σ B _ h .bool (Fz.Le.refl B) (hc.toks _))
theorem AR{a:Addr}{k:Int}{kvs:List (Int×V)}(ho:eV a (.idct kvs) σ.own)(h:Q (.bool (aT kvs k).isSome) σ):iX c (compareOp .In) (.int k) (.val (.ref a)) σ X Q:=by
 rintro B s ⟨u,v⟩ Φ Ψ ⟨hu,hv⟩ hc hΦ hΨ
 obtain⟨t⟩:=hu.inv
 obtain rfl:=hv.inv
 refine aG (hc.own _ ho.mem) fun hz z0=>cJ.e z0 fun o es h1 h2 h3=>?_
 clear z0
 exact wpAny_in_of (k:=k) (by simp[PySem.intKind,Value.isInt]) hz (h2.at h1).mapOf (by rw[sK h3];exact hΦ _ _ σ B _ h .bool (Fz.Le.refl B) (hc.toks _))
theorem jW{xs ys:List V}(h:Q (.lst (xs++ys)) σ)(hz:xs.length+ys.length≤sizeLine):iX c (binaryOp .Add) (.lst xs) (.lst ys) σ X Q:=by
 rintro B s ⟨u,v⟩ Φ Ψ ⟨hu,hv⟩ hc hΦ hΨ
 obtain⟨l,o,vs,n,_,h1,h2,h3,h4⟩:=hu.inv
 obtain⟨b,o2,ws,n2,_,g1,g2,g3,g4⟩:=hv.inv
 have ho:=hc.base.frz _ _ h1
 have ho2:=hc.base.frz _ _ g1
 obtain⟨cls,dd,data,sl⟩:=o
 obtain⟨cls2,dd2,data2,sl2⟩:=o2
 simp only at h2 h3 g2 g3
 subst h2 h3 g2 g3
 have e1:vs.size=xs.length:=by rw[←Array.length_toList];exact h4.length
 have e2:ws.size=ys.length:=by rw[←Array.length_toList];exact g4.length
 refine concat_meets ⟨_,ho,rfl⟩ ⟨_,ho2,rfl⟩ noFill_list_add seq_list_add PySem.F.slot_list_add PySem.F.entry_list_add (PySem.F.args_list_add_2 _ _) (list_addW l b vs ws n n2 dd dd2 sl sl2 (by rw[e1,e2];exact hz)) ⟨ho,ho2,?_⟩
 refine aG (hc.pushF {cls:= .type "list",data:= .seq (vs++ws)} s.toks) fun hc₂ hle₂=>?_
 exact hΦ _ _ σ _ _ h (.lst rfl (Fz.put_self _ _ _) rfl rfl (by rw[Array.toList_append];exact(h4.append g4).mono hle₂)) hle₂ hc₂
theorem AS{xs ys:List V}(h:Q (.tup (xs++ys)) σ)(hz:xs.length+ys.length≤sizeLine):iX c (binaryOp .Add) (.tup xs) (.tup ys) σ X Q:=by
 rintro B s ⟨u,v⟩ Φ Ψ ⟨hu,hv⟩ hc hΦ hΨ
 obtain⟨l,o,vs,n,h1,h2,h3,h4⟩:=hu.inv
 obtain⟨b,o2,ws,n2,g1,g2,g3,g4⟩:=hv.inv
 clear hu hv
 have ho:=hc.base.frz _ _ h1
 have ho2:=hc.base.frz _ _ g1
 have keep1:c5 c.g B (.tup xs) (.ref l):= .tup h1 h2 h3 h4
 have keep2:c5 c.g B (.tup ys) (.ref b):= .tup g1 g2 g3 g4
 obtain⟨cls,dd,data,sl⟩:=o
 obtain⟨cls2,dd2,data2,sl2⟩:=o2
 simp only at h2 h3 g2 g3
 subst h2 h3 g2 g3
 have e1:vs.size=xs.length:=by rw[←Array.length_toList];exact h4.length
 have e2:ws.size=ys.length:=by rw[←Array.length_toList];exact g4.length
 by_cases hv:vs.isEmpty=true
 ·have hx:xs=[]:=List.length_eq_zero_iff.mp (by rw[←e1];simpa [Array.isEmpty] using hv)
  subst hx
  exact concat_meets ⟨_,ho,rfl⟩ ⟨_,ho2,rfl⟩ noFill_tuple_add seq_tuple_add PySem.F.slot_tuple_add PySem.F.entry_tuple_add (PySem.F.args_tuple_add_2 _ _)
   (tuple_addW0 l b vs ws n n2 dd dd2 sl sl2 hv) ⟨ho,ho2,hΦ _ _ σ B _ h keep2 (Fz.Le.refl B) hc⟩
 ·by_cases hw:ws.isEmpty=true
  ·have hx:ys=[]:=List.length_eq_zero_iff.mp (by rw[←e2];simpa [Array.isEmpty] using hw)
   subst hx
   exact concat_meets ⟨_,ho,rfl⟩ ⟨_,ho2,rfl⟩ noFill_tuple_add seq_tuple_add PySem.F.slot_tuple_add PySem.F.entry_tuple_add (PySem.F.args_tuple_add_2 _ _)
    (tuple_addW1 l b vs ws n n2 dd dd2 sl sl2 hv hw) ⟨ho,ho2,hΦ _ (.tup (xs++[])) σ B _ h (by rw[List.append_nil];exact keep1) (Fz.Le.refl B) hc⟩
  ·refine concat_meets ⟨_,ho,rfl⟩ ⟨_,ho2,rfl⟩ noFill_tuple_add seq_tuple_add PySem.F.slot_tuple_add PySem.F.entry_tuple_add (PySem.F.args_tuple_add_2 _ _)
    (tuple_addW2 l b vs ws n n2 dd dd2 sl sl2 hv hw (by rw[e1,e2];exact hz)) ⟨ho,ho2,?_⟩
   refine aG (hc.pushF {cls:= .type "tuple",data:= .seq (vs++ws)} s.toks) fun hc₂ hle₂=>?_
   exact hΦ _ _ σ _ _ h (.tup (Fz.put_self _ _ _) rfl rfl (by rw[Array.toList_append];exact(h4.append g4).mono hle₂)) hle₂ hc₂
theorem wV{x y:Array UInt8}(h:Q (.bytes (x++y)) σ)(hz:x.size+y.size≤16777216):iX c (binaryOp .Add) (.bytes x) (.bytes y) σ X Q:=by
 rintro B s ⟨u,v⟩ Φ Ψ ⟨hu,hv⟩ hc hΦ hΨ
 obtain⟨_⟩:=hu.inv;obtain⟨_⟩:=hv.inv
 exact KBy.add_bytes hz fun t' k=>hΦ _ _ σ B _ h .bytes (Fz.Le.refl B) (hc.toks k)
end
end
section
open PySem.SeqAt
section
variable {c:Cx}{σ:St}{X:Value→St→Prop}{Q:V→St→Prop}{B:Fz}{s:Shared}
theorem Reps.one{g:Gx}{B:Fz}{x:V}{vs:List Value}(h:Reps g B [x] vs):∃v,vs=[v]∧c5 g B x v:=by
 cases h with|cons a r=>cases r;exact⟨_,rfl,a⟩
theorem Reps.two{g:Gx}{B:Fz}{x y:V}{vs:List Value}(h:Reps g B [x,y] vs):cJ (fun v w=>vs=[v,w]) (fun v w=>c5 g B x v) (fun v w=>c5 g B y w):=by
 cases h with|cons a r=>refine aH r.one fun w z2 b=>?_;subst z2;exact⟨_,_,rfl,a,b⟩
theorem Reps.three{g:Gx}{B:Fz}{x y z:V}{vs:List Value}(h:Reps g B [x,y,z] vs):gY (fun u v w=>vs=[u,v,w]) (fun u v w=>c5 g B x u) (fun u v w=>c5 g B y v) (fun u v w=>c5 g B z w):=by
 cases h with|cons a r=>refine cJ.e r.two fun v w z0 b d=>?_;subst z0;exact⟨_,_,_,rfl,a,b,d⟩
theorem k1{id:Value}{x:V}(h:∀B s v (Φ Ψ:Value→Shared→Prop),c5 c.g B x v→Conc c σ B s→(vT c (c5 c.g) B Q Φ)→(jC c X Ψ)→wpAny (model c.g.prog c.g.w) c.A (call id [v]) Φ Ψ s):
  WK c (.val id) [x] σ X Q:=by
 intro B s fv vs Φ Ψ hf hr hc hΦ hΨ
 obtain rfl:=hf.inv
 refine aH hr.one fun v z2 r=>?_
 subst z2
 exact h B s v Φ Ψ r hc hΦ hΨ
theorem k2{id:Value}{x y:V}(h:∀B s v w (Φ Ψ:Value→Shared→Prop),c5 c.g B x v→c5 c.g B y w→Conc c σ B s→(vT c (c5 c.g) B Q Φ)→(jC c X Ψ)→wpAny (model c.g.prog c.g.w) c.A (call id [v,w]) Φ Ψ s):
  WK c (.val id) [x,y] σ X Q:=by
 intro B s fv vs Φ Ψ hf hr hc hΦ hΨ
 obtain rfl:=hf.inv
 refine cJ.e hr.two fun v w z0 r t=>?_
 subst z0
 exact h B s v w Φ Ψ r t hc hΦ hΨ
theorem uV{n:Nat}(h:n≤sizeLine):(n:Int)<2^63:=by
 have:sizeLine=16777216:=rfl
 exact aI [_,_] [] (.Le .w .x) 1 (.Eq .x (.n 16777216)) 1 (.lt (.c .w) (.n 9223372036854775808)) 0 qq h this
theorem bP{xs:List V}(hz:xs.length≤sizeLine)(h:Q (.int xs.length) σ):WK c (.val (.builtin "len")) [.lst xs] σ X Q:=k1 fun B s v Φ Ψ hr hc hΦ hΨ=>by
 obtain⟨a,o,vs,n,_,h1,h2,h3,h4⟩:=hr.inv
 have hsz:vs.size=xs.length:=by rw[←Array.length_toList];exact h4.length
 refine len_list ⟨o,hc.base.frz _ _ h1,h2,n,h3⟩ (by rw[hsz];exact uV hz) ?_
 rw[hsz]
 exact hΦ _ _ σ B _ h .int (Fz.Le.refl B) (hc.toks _)
theorem B6{a:Addr}{xs:List V}(ho:eV a (.lst xs) σ.own)(hz:xs.length≤sizeLine)(h:Q (.int xs.length) σ):WK c (.val (.builtin "len")) [.val (.ref a)] σ X Q:=k1 fun B s v Φ Ψ hr hc hΦ hΨ=>by
 obtain rfl:=hr.inv
 refine aH ((hc.own _ ho.mem).list) fun vs ht h4=>?_
 have hsz:vs.size=xs.length:=by rw[←Array.length_toList];exact h4.length
 refine len_list ht (by rw[hsz];exact uV hz) ?_
 rw[hsz]
 exact hΦ _ _ σ B _ h .int (Fz.Le.refl B) (hc.toks _)
theorem B5{xs:List V}(hz:xs.length≤sizeLine)(h:Q (.int xs.length) σ):WK c (.val (.builtin "len")) [.tup xs] σ X Q:=k1 fun B s v Φ Ψ hr hc hΦ hΨ=>by
 obtain⟨a,o,vs,n,h1,h2,h3,h4⟩:=hr.inv
 have hsz:vs.size=xs.length:=by rw[←Array.length_toList];exact h4.length
 refine len_tuple (items:=vs) ⟨o,hc.base.frz _ _ h1,h2,n,h3⟩ (by rw[hsz];exact uV hz) ?_
 rw[hsz]
 exact hΦ _ _ σ B _ h .int (Fz.Le.refl B) (hc.toks _)
theorem fY{x:Str}(hz:x.length≤sizeLine)(h:Q (.int x.length) σ):WK c (.val (.builtin "len")) [.str x] σ X Q:=k1 fun B s v Φ Ψ hr hc hΦ hΨ=>by
 obtain⟨_⟩:=hr.inv
 exact P.len_str (Int.not_le.mpr (uV hz)) (hΦ _ _ σ B _ h .int (Fz.Le.refl B) (hc.toks _))
theorem xB{x:Array UInt8}(hz:x.size≤1099511627776)(h:Q (.int x.size) σ):WK c (.val (.builtin "len")) [.bytes x] σ X Q:=k1 fun B s v Φ Ψ hr hc hΦ hΨ=>by
 obtain⟨_⟩:=hr.inv
 exact len_bytes hz (hΦ _ _ σ B _ h .int (Fz.Le.refl B) (hc.toks _))
theorem dO{n:Int}(h:Q (.int n) σ):WK c (.val (.type "int")) [.int n] σ X Q:=k1 fun B s v Φ Ψ hr hc hΦ hΨ=>by
 obtain⟨_⟩:=hr.inv;exact call_int_int (hΦ _ _ σ B _ h .int (Fz.Le.refl B) hc)
theorem zD{b:Bool}(h:Q (.int (if b then 1 else 0)) σ):WK c (.val (.type "int")) [.bool b] σ X Q:=k1 fun B s v Φ Ψ hr hc hΦ hΨ=>by
 obtain rfl:=hr.inv;exact call_int_bool (hΦ _ _ σ B _ h .int (Fz.Le.refl B) (hc.toks _))
theorem Ba{x:Str}{n:Int}(hn:PySem.intText? x=some n)(hl:x.length≤640)(h:Q (.int n) σ):WK c (.val (.type "int")) [.str x] σ X Q:=k1 fun B s v Φ Ψ hr hc hΦ hΨ=>by
 obtain⟨_⟩:=hr.inv;exact KIN.call_text hn hl (hΦ _ _ σ B _ h .int (Fz.Le.refl B) (hc.toks _))
theorem lT{n:Int}(hn:n.natAbs.log2<1920)(h:Q (.str (toString n)) σ):WK c (.val (.type "str")) [.int n] σ X Q:=k1 fun B s v Φ Ψ hr hc hΦ hΨ=>by
 obtain⟨_⟩:=hr.inv;exact P.str_of_int hn (hΦ _ _ σ B _ h .str (Fz.Le.refl B) (hc.toks _))
theorem Cf{n:Nat}(h:Q (.int n) σ):WK c (.val (.builtin "ord")) [.str ⟨#[n]⟩] σ X Q:=k1 fun B s v Φ Ψ hr hc hΦ hΨ=>by
 obtain⟨_⟩:=hr.inv;exact P.ord_of_char (hΦ _ _ σ B _ h .int (Fz.Le.refl B) (hc.toks _))
theorem Ci{n:Int}(h0:0≤n)(h1:n≤0x10FFFF)(h:Q (.str ⟨#[n.toNat]⟩) σ):WK c (.val (.builtin "chr")) [.int n] σ X Q:=k1 fun B s v Φ Ψ hr hc hΦ hΨ=>by
 obtain⟨_⟩:=hr.inv
 refine P.chr_of_int ?_ (hΦ _ _ σ B _ h .str (Fz.Le.refl B) (hc.toks _))
 simp only[Bool.or_eq_false_iff,decide_eq_false_iff_not];exact⟨aB [] [_] (.le (.n 0) .w) 1 (.nlt .w (.n 0)) 0 qq h0,aB [] [_] (.le .w (.n 1114111)) 1 (.nlt (.n 1114111) .w) 0 qq h1⟩
theorem Ea{n:Int}(h:Q (.int (if n<0 then -n else n)) σ):WK c (.val (.builtin "abs")) [.int n] σ X Q:=k1 fun B s v Φ Ψ hr hc hΦ hΨ=>by
 obtain⟨_⟩:=hr.inv;exact call_abs_int fun u tk=>hΦ _ _ σ B _ h .int (Fz.Le.refl B) (hc.toks _)
theorem Cg{a b:Int}(h:Q (.int (if b<a then b else a)) σ):WK c (.val (.builtin "min")) [.int a,.int b] σ X Q:=k2 fun B s v w Φ Ψ hr ht hc hΦ hΨ=>by
 obtain⟨_⟩:=hr.inv;obtain⟨_⟩:=ht.inv
 refine min_two_ints hc.base.ok.handled fun h' tk hk=>hΦ _ _ σ B _ h ?_ (Fz.Le.refl B) (hc.kept fun a o e g=> .of_get (hk a o e))
 split<;>exact .int
theorem fC{n:Int}(h:Q (.rng 0 n 1) σ):WK c (.val (.type "range")) [.int n] σ X Q:=k1 fun B s v Φ Ψ hr hc hΦ hΨ=>by
 obtain⟨_⟩:=hr.inv
 refine call_range_1 ?_
 obtain⟨h1,h2⟩:=hc.pushF {cls:= .type "range",data:= .fields #[.int 0 s.toks,.int n _,.int 1 (s.toks+1)]} (s.toks+1+1)
 exact hΦ _ _ σ _ _ h (.rng (Fz.put_self _ _ _)) h2 h1
theorem Ce{a b:Int}(h:Q (.rng a b 1) σ):WK c (.val (.type "range")) [.int a,.int b] σ X Q:=k2 fun B s v w Φ Ψ hr ht hc hΦ hΨ=>by
 obtain⟨_⟩:=hr.inv;obtain⟨_⟩:=ht.inv
 refine call_range_2 ?_
 obtain⟨h1,h2⟩:=hc.pushF {cls:= .type "range",data:= .fields #[.int a _,.int b _,.int 1 s.toks]} (s.toks+1)
 exact hΦ _ _ σ _ _ h (.rng (Fz.put_self _ _ _)) h2 h1
theorem x9{a b d:Int}(hd:d≠0)(hp:Builtin.divisionGoesByPylong (b-a) d=false)(h:Q (.rng a b d) σ):WK c (.val (.type "range")) [.int a,.int b,.int d] σ X Q:=by
 intro B s fv vs Φ Ψ hf hr hc hΦ hΨ
 obtain rfl:=hf.inv
 refine gY.e hr.three fun u v w z0 r1 r2 r3=>?_
 subst z0
 obtain⟨_⟩:=r1.inv;obtain⟨_⟩:=r2.inv;obtain⟨_⟩:=r3.inv
 refine call_range_3 hd ?_ (.inl hp)
 obtain⟨h1,h2⟩:=hc.pushF {cls:= .type "range",data:= .fields #[.int a _,.int b _,.int d _]} s.toks
 exact hΦ _ _ σ _ _ h (.rng (Fz.put_self _ _ _)) h2 h1
end
end
section
open PySem.SeqAt
noncomputable def V.ints(ns:List Int):List V:=ns.map V.int
theorem Reps.ints{g:Gx}{B:Fz}{ns:List Int}:∀{vs},Reps g B (V.ints ns) vs→IntsAre vs ns:=by
 induction ns with
 |nil=>intro vs h;cases h;exact .nil
 |cons y ys ih=>intro vs h;cases h with|cons a r=>obtain⟨_⟩:=a.inv;exact .cons _ _ (ih r)
section
variable {c:Cx}{σ:St}{X:Value→St→Prop}{Q:V→St→Prop}{B:Fz}{s:Shared}
theorem AD(xs:Array (Int×Tok)):preSum (numAt xs) xs.size=(xs.toList.map (·.1)).sum:=by
 rw[preSum_eq,List.take_of_length_le (by simp)]
theorem E9{ns:List Int}(h:Q (.int ns.sum) σ):WK c (.val (.builtin "sum")) [.lst (V.ints ns)] σ X Q:=k1 fun B s v Φ Ψ hr hc hΦ hΨ=>by
 obtain⟨a,o,vs,n,_,h1,h2,h3,h4⟩:=hr.inv
 have hi:=h4.ints
 refine cI hi.allInts.items fun xs e=>?_
 have hns:ns=xs.toList.map (·.1):=by rw[←hi.numsOf,←nums_intItems,←e]
 have e' :vs=intItems xs:=by rw[←e]
 subst e'
 refine sum_intListG hc.base.ok.handled ⟨o,hc.base.frz _ _ h1,h2,n,h3⟩ fun h' tk t' hk=>?_
 rw[AD,←hns]
 exact hΦ _ _ σ B _ h .int (Fz.Le.refl B) (hc.kept fun a o e g=> .of_get (hk a o e))
theorem G2{ns:List Int}(hne:0<ns.length)(h:∀M,M∈ns→(∀a∈ns,a≤M)→Q (.int M) σ):WK c (.val (.builtin "max")) [.lst (V.ints ns)] σ X Q:=k1 fun B s v Φ Ψ hr hc hΦ hΨ=>by
 obtain⟨a,o,vs,n,_,h1,h2,h3,h4⟩:=hr.inv
 have hi:=h4.ints
 refine cI hi.allInts.items fun xs e=>?_
 have hns:ns=xs.toList.map (·.1):=by rw[←hi.numsOf,←nums_intItems,←e]
 have e' :vs=intItems xs:=by rw[←e]
 subst e'
 have hsz:0<xs.size:=by
  have h3:=hne;rw[hns,List.length_map,Array.length_toList] at h3;exact h3
 refine max_intList hc.base.ok.handled ⟨o,hc.base.frz _ _ h1,h2,n,h3⟩ hsz fun v h' tk hv hk=>cI (intItems_at hv) fun t z0=>?_
 subst z0
 refine aG (argBest_gt (numAt xs) (xs.size-1)) fun q1 q2=>?_
 refine hΦ _ _ σ B _ (h _ ?_ fun a ha=>?_) .int (Fz.Le.refl B) (hc.kept fun a o e g=> .of_get (hk a o e))
 ·rw[hns,numAt_eq];exact getD_mem (by rw[List.length_map,Array.length_toList];exact aI [_,_,_] [] (.Le .w .y) 1 (.Eq (.a .y (.n 1)) .x) 1 (.Lt .w .x) 0 qq q1 (Nat.sub_add_cancel (aB [_] [] (.Lt (.n 0) .w) 1 (.Le (.n 1) .w) 0 qq hsz)))
 ·rw[hns] at ha
  refine aH (mem_getD ha) fun j hj z2=>?_
  subst z2
  rw[List.length_map,Array.length_toList] at hj
  rw[←numAt_eq];exact q2 j (by exact aI [_,_,_] [] (.Lt .w .y) 1 (.Eq (.a .x (.n 1)) .y) (.negSucc 0) (.Le .w .x) 0 qq hj (Nat.sub_add_cancel (aB [_,_] [] (.Lt .x .w) 1 (.Le (.n 1) .w) 0 qq hj)))
theorem Al{ns:List Int}(hr:∀n∈ns,0≤n∧n<256)(hz:ns.length≤sizeLine)(h:Q (.bytes (byteArr ns)) σ):WK c (.val (.type "bytes")) [.lst (V.ints ns)] σ X Q:=k1 fun B s v Φ Ψ hv hc hΦ hΨ=>by
 obtain⟨a,o,vs,n,_,h1,h2,h3,h4⟩:=hv.inv
 refine call_bytes_ints (vs:=vs.toList) ⟨o,hc.base.frz _ _ h1,h2,n,h3⟩ h4.ints hr (by rw[h4.length,V.ints,List.length_map];exact hz) hc.base.ok.handled fun h' t k hk=>?_
 exact hΦ _ _ σ B _ h .bytes (Fz.Le.refl B) (hc.kept fun a o e g=> .of_get (hk a o e))
theorem Cj{a:Addr}{ns:List Int}(ho:eV a (.lst (V.ints ns)) σ.own)(hr:∀n∈ns,0≤n∧n<256)(hz:ns.length≤sizeLine)(h:Q (.bytes (byteArr ns)) σ):WK c (.val (.type "bytes")) [.val (.ref a)] σ X Q:=k1 fun B s v Φ Ψ hv hc hΦ hΨ=>by
 obtain rfl:=hv.inv
 refine aH ((hc.own _ ho.mem).list) fun vs ht h4=>?_
 refine call_bytes_ints (vs:=vs.toList) ht h4.ints hr (by rw[h4.length,V.ints,List.length_map];exact hz) hc.base.ok.handled fun h' t k hk=>?_
 exact hΦ _ _ σ B _ h .bytes (Fz.Le.refl B) (hc.kept fun a o e g=> .of_get (hk a o e))
theorem zB{xs:List V}(h:∀I,qH c I→Q (.val (.ref I)) ⟨σ.env,(I,.rev xs)::σ.own⟩):WK c (.val (.type "reversed")) [.lst xs] σ X Q:=k1 fun B s v Φ Ψ hv hc hΦ hΨ=>by
 obtain⟨a,o,vs,n,_,h1,h2,h3,h4⟩:=hv.inv
 exact call_reversed_list (items:=vs) ⟨o,hc.base.frz _ _ h1,h2,n,h3⟩ (hΦ _ _ _ B _ (h _ hc.base.size) .val (Fz.Le.refl B) (hc.pushO (revObj a ((vs.size:Int)-1)) (.rev xs) s.toks ⟨a,o,vs,n,Heap.get?_push_size _ rfl,h1,h2,h3,h4⟩))
theorem Conc.drop{a:Addr}{ov:OV}{rest:List (Addr×OV)}(hc:Conc c σ B s)(hn:qH c a)(hd:yE a ov σ.own rest):Conc c ⟨σ.env,rest⟩ B s∧aP c ⟨σ.env,rest⟩ B a∧f7 c.g B s.heap a ov:=by
 have hm:(a,ov)∈σ.own:=hd.perm.mem_iff.mpr (List.mem_cons_self ..)
 refine m7 (hc.base.mt a (bF.own_mem (List.mem_map_of_mem hm))) fun b1 b2 b3 b4=>?_
 have hsub:∀p∈rest,p∈σ.own:=fun p hp=>hd.perm.mem_iff.mpr (List.mem_cons_of_mem _ hp)
 have hpm:(bF c σ).Perm (a::bF c ⟨σ.env,rest⟩):=by
  unfold bF
  refine((((hd.perm.map (·.1)).append_left _).cons _).trans ?_)
  simp only[List.map_cons]
  exact((List.perm_middle).cons _).trans (List.Perm.swap _ _ _)
 have nod:(a::bF c ⟨σ.env,rest⟩).Nodup:=hpm.nodup_iff.mp hc.base.nod
 exact⟨⟨⟨hc.base.ok,hc.base.rest,hc.base.size,hc.base.stay,hc.base.TB,hc.base.frz,hc.base.Bold,hc.base.Bnew,hc.base.pins,hc.base.pfree,(List.nodup_cons.mp nod).2,fun b hb=>hc.base.mt b (hpm.mem_iff.mpr (List.mem_cons_of_mem _ hb))⟩,hc.names,hc.vars,fun p hp=>hc.own p (hsub p hp)⟩,
  ⟨hn,(List.nodup_cons.mp nod).1,b1,b3⟩,hc.own _ hm⟩
theorem Fa{e:Expr}{Q:List V→St→Prop}(h:WE c e σ X fun x σ₁=>gY (fun I xs rest=>x= .val (.ref I)) (fun I xs rest=>qH c I) (fun I xs rest=>yE I (.rev xs) σ₁.own rest) (fun I xs rest=>Q xs.reverse ⟨σ₁.env,rest⟩)):mH c e σ X Q:=by
 intro B s Φ Ψ hc hΦ hΨ
 refine h B s _ _ hc (fun v x σ₁ B₁ s₁ hq hr hle hc₁=>?_) hΨ
 refine gY.e hq fun I xs rest z0 hn hd z1=>?_
 clear hq
 revert z1
 intro hq
 subst z0
 obtain rfl:=hr.inv
 refine eT (hc₁.drop hn hd) fun hc₂ gI z0=>y7.e z0 fun l o vs n e1 e2 e3 e4 e5=>?_
 clear z0
 have hne:l≠I:=fun q=>by rw[q,gI.2.2.1] at e2;cases e2
 have hll:s₁.heap.IsList l vs:=⟨o,hc₁.base.frz _ _ e2,e3,n,e4⟩
 have hsz:vs.size=xs.length:=by rw[←Array.length_toList];exact e5.length
 refine wpAny_pyIter_revIter ⟨_,e1,rfl,rfl⟩ ?_
 have it:qX c.g B₁ I xs.reverse 0 s₁.heap [I,l] (fun i v=>vs[vs.size-1-i]? =some v∧i<vs.size) (fun i h=>i≤vs.size∧h.IsRevIter I l ((vs.size:Int)-1-(i:Int))∧h.IsList l vs):=by
  refine⟨fun A hA=>?_,fun i v p=>?_,⟨Nat.zero_le _,⟨_,e1,rfl,by simp[revObj]⟩,hll⟩,fun b hb=>?_,fun i h st=>?_⟩
  ·have w:=Walks.listRev (prog:=c.g.prog) (w:=c.g.w) hA I l hne vs
   rw[List.length_reverse,←hsz]
   exact⟨w.sub,w.frame,fun i s Q E hi st hQ=>w.item i s Q E hi st fun v h' tk p=>hQ v h' tk ⟨p,hi⟩,w.done,w.self⟩
  ·refine aG p fun p1 p2=>?_
   clear p
   rw[←Array.getElem?_toList] at p1
   refine aH (e5.get' p1) fun x ex rx=>?_
   refine⟨x,?_,rx⟩
   rw[List.getElem?_reverse (by rw[←hsz];exact p2),←hsz];exact ex
  ·rcases List.mem_cons.mp hb with rfl|hb
   ·exact .inl rfl
   ·rw[List.mem_singleton.mp hb];exact .inr ⟨o,e2⟩
  ·refine eT st fun _ z0 _=>?_
   clear st
   refine dT z0 fun o' q1 q2 q3=>?_
   clear z0
   exact⟨o',_,q1,q2,by decide,fun v q=>by rw[q3] at q;cases q⟩
 exact hΦ I xs.reverse _ _ _ _ B₁ s₁ hq it gI hle hc₂
end
end
section
open PySem.SeqAt
theorem qS{prog:Program}{w:World}{name:Str}{es:List DictEntry}{kvs:List (Str×Value)}(p:Pairs (PySem.strKind prog w) es kvs):getL name es=some (valueAt kvs name):=by
 refine p.rec (motive:=fun es kvs _=>getL name es=some (valueAt kvs name)) rfl ?_
 intro e kv es kvs h1 h2 _ ih
 obtain⟨k,v⟩:=kv
 refine cI (Value.isStrOf_shape (show Value.isStrOf k e.key=true from h1)) fun t ht=>?_
 unfold getL at ih ⊢
 have hr:e.refKey=false:=by unfold DictEntry.refKey;rw[ht]
 by_cases q:k=name
 ·have:e.key.isStr name=true:=by rw[ht,q];simp[Value.isStr]
  simp[List.find?,this,valueAt,q]
  exact h2
 ·have:e.key.isStr name=false:=by rw[ht];simp[Value.isStr,q]
  simp only[List.find?,this,List.any_cons,hr,Bool.false_or]
  rw[ih]
  simp[valueAt,q]
noncomputable def V.handed:V→Bool
 | .val v=>handedIn v
 |_=>true
theorem c5.handed{g:Gx}{B:Fz}{x:V}{v:Value}(h:c5 g B x v)(hx:x.handed=true):handedIn v=true:=by
 cases h<;>first|exact hx|rfl
section
variable {c:Cx}{σ:St}{X:Value→St→Prop}{Q:V→St→Prop}{B:Fz}{s:Shared}
theorem Conc.inK(hc:Conc c σ B s):c.g.K.In s.heap:=c.g.hK.keeps hc.topKeeps
theorem c5.inst{g:Gx}{B:Fz}{h:Heap}{C:Addr}{l:List (Str×V)}{a:Addr}(hB:∀a o,B a=some o→h.get? a=some o)(r:c5 g B (.obj C l) (.ref a)):
  E4x3 (fun ox es n kvs=>InstAt h a ox C (some (dictOf es n))) (fun ox es n kvs=>Pairs (PySem.strKind g.prog g.w) es kvs) (fun ox es n kvs=>RepD g B l kvs):=by
 obtain⟨_,d,o,kvs,h1,h2,h3,h4⟩:=r.inv
 refine E2x5.e h3 fun es ep he hd hk hp _=>?_
 clear h3
 obtain⟨cls,dd,data,sl⟩:=o
 refine eT he fun e1 e2 e3=>?_
 clear he
 simp only at e1 e2 e3 hd
 subst e1 e2 e3 hd
 exact⟨_,es.toList,ep,kvs,⟨hB _ _ h1,rfl,rfl,hB _ _ h2⟩,hp,h4⟩
noncomputable def HF(c:Cx)(name:Str)(x:V)(σ:St)(X:Value→St→Prop)(Q:V→St→Prop):Prop:=WF c (c5 c.g) (c5 c.g) x (fun v=>getAttr v name true) σ X Q
noncomputable def Ia(c:Cx)(X:Value→St→Prop)(Q:V→St→Prop)(name:Str)(ov:V)(σ:St):Prop:=HF c name ov σ X Q
theorem jK{o:Expr}{name:Str}{p:Pos}(h:WE c o σ X (Ia c X Q name))(hb:autoParam (attributeBase o name c.env (eval o c.env)=eval o c.env) c8):WE c (.Attribute o name p) σ X Q:=by
 intro B s Φ Ψ hc hΦ hΨ
 rw[arm_eval_Attribute,hb]
 refine wpAny_bind (h B s _ Ψ hc (fun v x σ₁ B₁ s₁ hq hr hle hc₁=>wpAny_bind (wpAny_standAt (wpAny_bind (wpAny_holding (hq B₁ s₁ v _ Ψ hr hc₁ (fun u y σ₂ B₂ s₂ hq₂ hr₂ hle₂ hc₂=>?_) hΨ))))) hΨ)
 exact wpAny_bind (wpAny_letTemporaryGo (wpAny_pure (hΦ _ _ σ₂ B₂ s₂ hq₂ hr₂ (hle.trans hle₂) hc₂)))
structure g0(K:Frag)(C:Addr)(name:Str):Prop where
 hg:plainGet K C name=true
 hh:hasDictIn K C=true
 ha:findIn K (.ref C) name=some none
theorem jF{name:Str}{C:Addr}{l:List (Str×V)}{y:V}(ok:g0 c.g.K C name)(hy:aT l name=some y)(hh:y.handed=true)(h:Q y σ):HF c name (.obj C l) σ X Q:=by
 intro B s v Φ Ψ hr hc hΦ hΨ
 have hr' :=hr
 obtain⟨a,rfl⟩:∃a,v= .ref a:=by cases hr with|obj _ _ _ _=>exact⟨_,rfl⟩
 refine E4x3.e (hr.inst hc.base.frz) fun ox es n kvs I hp hd=>?_
 rcases hd.at (k:=name) with⟨q,_⟩|⟨z,w,e1,e2,hz⟩
 ·rw[hy] at q;cases q
 ·rw[hy] at e1;cases e1
  exact get_value hc.inK I (plainGet_of ok.hg).1 (findObj_own ok.hh ok.ha rfl (by rw[lookIn_dict,qS hp,e2])) (hz.handed hh) (hΦ _ _ σ B _ h hz (Fz.Le.refl B) (hc.toks _))
structure pE(K:Frag)(C:Addr)(name:Str)(f:Addr):Prop where
 hg:plainGet K C name=true
 hf:findIn K (.ref C) name=some (some (.ref f))
 ht:typeIn K (.ref f)=some (.type "function")
theorem dU{name:Str}{C f:Addr}{l:List (Str×V)}(ok:pE c.g.K C name f)(hn:aT l name=none):WM c name (.obj C l) (.ref f) σ:=by
 intro B s v pl Φ Ψ hr hc hΦ
 have hr' :=hr
 obtain⟨a,rfl⟩:∃a,v= .ref a:=by cases hr with|obj _ _ _ _=>exact⟨_,rfl⟩
 refine E4x3.e (hr.inst hc.base.frz) fun ox es n kvs I hp hd=>?_
 refine method_fn hc.inK I (plainGet_of ok.hg).1 (plainGet_of ok.hg).2 ok.hf ok.ht ?_ (hΦ s.toks)
 have e:valueAt kvs name=none:=by
  rcases hd.at (k:=name) with⟨_,q⟩|⟨z,w,e1,_⟩
  ·exact q
  ·rw[hn] at e1;cases e1
 show(lookIn name (dictOf es n)).map (·.isSome)=some false
 rw[lookIn_dict,qS hp,e];rfl
theorem lU{C:Addr}{l:List (Str×V)}(e:isIn c.g.K (.ref C) C=true)(h:Q (.bool true) σ):WK c (.val (.builtin "isinstance")) [.obj C l,.val (.ref C)] σ X Q:=k2 fun B s v w Φ Ψ hr ht hc hΦ hΨ=>by
 obtain rfl:=ht.inv
 obtain⟨a,rfl⟩:∃a,v= .ref a:=by cases hr with|obj _ _ _ _=>exact⟨_,rfl⟩
 refine E4x3.e (hr.inst hc.base.frz) fun ox es n kvs I hp hd=>?_
 exact isi_call hc.inK (fun M=>I.type) e (by intro q;cases q) (hΦ _ _ σ B _ h .bool (Fz.Le.refl B) hc)
structure lY(K:Frag)(D:Addr):Prop where
 hg:plainGet K D "__class__" =true
 hdct:hasDictIn K D=true
 ha:findIn K (.ref D) "__class__" =some (some (.builtin "object.__class__"))
 hn:specialIn K (.builtin "object.__class__") "__get__" =some (some (.builtin "getset_descriptor.__get__"))
 htk:takesIn K (.builtin "object.__class__")=some true
 hm:mroIn K D (.type "object")=some true
theorem rW{C D:Addr}{l:List (Str×V)}(k:lY c.g.K D)(e:kin_not c.g.K D C=true)(h:Q (.bool false) σ):WK c (.val (.builtin "isinstance")) [.obj D l,.val (.ref C)] σ X Q:=k2 fun B s v w Φ Ψ hr ht hc hΦ hΨ=>by
 obtain rfl:=ht.inv
 obtain⟨a,rfl⟩:∃a,v= .ref a:=by cases hr with|obj _ _ _ _=>exact⟨_,rfl⟩
 exact E4x3.e (hr.inst hc.base.frz) fun ox es n kvs I hp hd=>kin_callC hc.inK I e k.hg k.hdct k.ha k.hn k.htk k.hm (hΦ _ _ σ B _ h .bool (Fz.Le.refl B) (hc.toks _))
theorem B7{D:Addr}{T:String}{l:List (Str×V)}(k:lY c.g.K D)(e:kin_notT c.g.K D T=true)(hty:typeOf (.type T)=pure (.type "type"))(h:Q (.bool false) σ):WK c (.val (.builtin "isinstance")) [.obj D l,.val (.type T)] σ X Q:=k2 fun B s v w Φ Ψ hr ht hc hΦ hΨ=>by
 obtain rfl:=ht.inv
 obtain⟨a,rfl⟩:∃a,v= .ref a:=by cases hr with|obj _ _ _ _=>exact⟨_,rfl⟩
 exact E4x3.e (hr.inst hc.base.frz) fun ox es n kvs I hp hd=>kin_callT hc.inK I e hty k.hg k.hdct k.ha k.hn k.htk k.hm (hΦ _ _ σ B _ h .bool (Fz.Le.refl B) (hc.toks _))
theorem oN{C:Addr}{n:Int}(e:isNotIn c.g.K "int" C=true)(h:Q (.bool false) σ):WK c (.val (.builtin "isinstance")) [.int n,.val (.ref C)] σ X Q:=k2 fun B s v w Φ Ψ hr ht hc hΦ hΨ=>by
 obtain⟨_⟩:=hr.inv;obtain rfl:=ht.inv
 exact isn_call (P:=fun _=>True) hc.inK (fun M=>Looks.of_pure rfl) e (by intro q;cases q) trivial int_cls (hΦ _ _ σ B _ h .bool (Fz.Le.refl B) (hc.toks _))
theorem zC{C:Addr}{b:Bool}(e:isNotIn c.g.K "bool" C=true)(h:Q (.bool false) σ):WK c (.val (.builtin "isinstance")) [.bool b,.val (.ref C)] σ X Q:=k2 fun B s v w Φ Ψ hr ht hc hΦ hΨ=>by
 obtain rfl:=hr.inv;obtain rfl:=ht.inv
 exact isn_call (P:=fun _=>True) hc.inK (fun M=>Looks.of_pure rfl) e (by intro q;cases q) trivial bool_cls (hΦ _ _ σ B _ h .bool (Fz.Le.refl B) (hc.toks _))
theorem rV{C:Addr}(e:isNotIn c.g.K "NoneType" C=true)(h:Q (.bool false) σ):WK c (.val (.builtin "isinstance")) [.none,.val (.ref C)] σ X Q:=k2 fun B s v w Φ Ψ hr ht hc hΦ hΨ=>by
 obtain rfl:=hr.inv;obtain rfl:=ht.inv
 exact isn_call (P:=fun _=>True) hc.inK (fun M=>Looks.of_pure rfl) e (by intro q;cases q) trivial none_cls (hΦ _ _ σ B _ h .bool (Fz.Le.refl B) (hc.toks _))
theorem B9{C:Addr}{l:List (Str×V)}(e:isNotIn c.g.K "dict" C=true)(h:Q (.bool false) σ):WK c (.val (.builtin "isinstance")) [.dct l,.val (.ref C)] σ X Q:=k2 fun B s v w Φ Ψ hr ht hc hΦ hΨ=>by
 obtain rfl:=ht.inv
 obtain⟨a,o,kvs,hz,h1,h2,h3⟩:=hr.inv
 have hcl:o.cls= .type "dict" :=by obtain⟨_,_,q,_⟩:=h2;exact q.1
 exact isn_call (P:=fun h=>∃o,h.get? a=some o∧o.cls= .type "dict") hc.inK (fun M=>hcl▸(Looks.ld (hc.base.frz _ _ h1)).andThen .now) e (by intro q;cases q) ⟨o,hc.base.frz _ _ h1,hcl⟩ dict_cls (hΦ _ _ σ B _ h .bool (Fz.Le.refl B) (hc.toks _))
theorem B8{C:Addr}{l:List V}(e:isNotIn c.g.K "list" C=true)(h:Q (.bool false) σ):WK c (.val (.builtin "isinstance")) [.lst l,.val (.ref C)] σ X Q:=k2 fun B s v w Φ Ψ hr ht hc hΦ hΨ=>by
 obtain rfl:=ht.inv
 obtain⟨a,o,vs,n,_,h1,h2,h3,h4⟩:=hr.inv
 exact isn_call (P:=fun h=>∃o,h.get? a=some o∧o.cls= .type "list") hc.inK (fun M=>h2▸(Looks.ld (hc.base.frz _ _ h1)).andThen .now) e (by intro q;cases q) ⟨o,hc.base.frz _ _ h1,h2⟩ list_cls (hΦ _ _ σ B _ h .bool (Fz.Le.refl B) (hc.toks _))
theorem iV{l:List (Str×V)}(h:Q (.bool true) σ):WK c (.val (.builtin "isinstance")) [.dct l,.val (.type "dict")] σ X Q:=k2 fun B s v w Φ Ψ hr ht hc hΦ hΨ=>by
 obtain rfl:=ht.inv
 obtain⟨a,o,kvs,hz,h1,h2,h3⟩:=hr.inv
 have hcl:o.cls= .type "dict" :=by obtain⟨_,_,q,_⟩:=h2;exact q.1
 exact IsiPair.dict_dict (hc.base.frz _ _ h1) hcl (hΦ _ _ σ B _ h .bool (Fz.Le.refl B) hc)
theorem rX{l:List V}(h:Q (.bool true) σ):WK c (.val (.builtin "isinstance")) [.lst l,.val (.type "list")] σ X Q:=k2 fun B s v w Φ Ψ hr ht hc hΦ hΨ=>by
 obtain rfl:=ht.inv
 obtain⟨a,o,vs,n,_,h1,h2,h3,h4⟩:=hr.inv
 exact IsiPair.list_list (hc.base.frz _ _ h1) h2 (hΦ _ _ σ B _ h .bool (Fz.Le.refl B) hc)
theorem jJ{n:Int}(h:Q (.bool true) σ):WK c (.val (.builtin "isinstance")) [.int n,.val (.type "int")] σ X Q:=k2 fun B s v w Φ Ψ hr ht hc hΦ hΨ=>by
 obtain⟨_⟩:=hr.inv;obtain rfl:=ht.inv;exact IsiPair.int_int (hΦ _ _ σ B _ h .bool (Fz.Le.refl B) hc)
theorem iU{n:Int}(h:Q (.bool false) σ):WK c (.val (.builtin "isinstance")) [.int n,.val (.type "bool")] σ X Q:=k2 fun B s v w Φ Ψ hr ht hc hΦ hΨ=>by
 obtain⟨_⟩:=hr.inv;obtain rfl:=ht.inv;exact IsiPair.int_bool (hΦ _ _ σ B _ h .bool (Fz.Le.refl B) (hc.toks _))
theorem rZ{n:Bool}(h:Q (.bool true) σ):WK c (.val (.builtin "isinstance")) [.bool n,.val (.type "int")] σ X Q:=k2 fun B s v w Φ Ψ hr ht hc hΦ hΨ=>by
 obtain rfl:=hr.inv;obtain rfl:=ht.inv;exact IsiPair.bool_int (hΦ _ _ σ B _ h .bool (Fz.Le.refl B) hc)
theorem qD{n:Bool}(h:Q (.bool true) σ):WK c (.val (.builtin "isinstance")) [.bool n,.val (.type "bool")] σ X Q:=k2 fun B s v w Φ Ψ hr ht hc hΦ hΨ=>by
 obtain rfl:=hr.inv;obtain rfl:=ht.inv;exact IsiPair.bool_bool (hΦ _ _ σ B _ h .bool (Fz.Le.refl B) hc)
theorem rY{n:Int}(h:Q (.bool false) σ):WK c (.val (.builtin "isinstance")) [.int n,.val (.type "dict")] σ X Q:=k2 fun B s v w Φ Ψ hr ht hc hΦ hΨ=>by
 obtain⟨_⟩:=hr.inv;obtain rfl:=ht.inv;exact IsiPair.int_dict (hΦ _ _ σ B _ h .bool (Fz.Le.refl B) (hc.toks _))
theorem qC(h:Q (.bool false) σ):WK c (.val (.builtin "isinstance")) [.none,.val (.type "dict")] σ X Q:=k2 fun B s v w Φ Ψ hr ht hc hΦ hΨ=>by
 obtain rfl:=hr.inv;obtain rfl:=ht.inv;exact IsiPair.NoneType_dict (hΦ _ _ σ B _ h .bool (Fz.Le.refl B) (hc.toks _))
end
end
section
open PySem.SeqAt
theorem uS(l:Addr)(items:Array Value)(n:Nat)(b:Addr)(items2:Array Value)(n2:Nat)(dd2:Option Addr)(sl2:Array (Option Value))(hz:items.size+items2.size≤sizeLine):
  Meets (Builtin.«list.extend» ⟨[.ref l,.ref b],[]⟩) (fun _ R s=>s.heap.get? l=some {cls:= .type "list",dict:=none,data:= .seq items n,slots:= #[]}∧s.heap.get? b=some {cls:= .type "list",dict:=dd2,data:= .seq items2 n2,slots:=sl2}∧R (.ok (.ret Value.none)) {s with heap:=s.heap.update l (Obj.mapSeq fun x=>x++items2),toks:=s.toks}):=
 .of_wp fun prog w A R s h=>by
  have hc0:¬(!items.isEmpty&&Builtin.List.listTooLong (items.size+items2.size))=true:=extend_door hz
  have hc1:items.size≤sizeLine:=Nat.le_trans (Nat.le_add_right _ _) hz
  obtain⟨hp,g,d,tk,os⟩:=s;refine eT h fun hl hb z0=>?_;clear h;revert z0;intro h;have f1:=AutoSeq1.idx_int;have f2:=AutoSeq1.sub_tuple_tuple;have f3:=AutoSeq1.sub_list_list;have f4:=AutoSeq1.sub_tuple_list;have f5:=AutoSeq1.sub_list_tuple
  have hz' :(items++items2).size≤sizeLine+1:=by rw[Array.size_append];omega
  wp_walk using (wpAny_updateSeq hl rfl (hz:=hc1) (_hz' :=hz')),AutoSeq1.wpAny_loadPart' hl,AutoSeq1.wpAny_loadPart' hb;exact⟨_,rfl,h⟩
section
variable {c:Cx}{σ:St}{X:Value→St→Prop}{Q:V→St→Prop}{B:Fz}{s:Shared}
theorem uB{name:Str}{id:String}{a:Addr}{xs:List V}(ho:eV a (.lst xs) σ.own)(slot:PySem.Slot "list" name id)(hty:typeOf (.builtin id)=pure (.type "method_descriptor")):WM c name (.val (.ref a)) (.builtin id) σ:=by
 intro B s v pl Φ Ψ hr hc hΦ
 obtain rfl:=hr.inv
 exact fT.e (hc.own _ ho.mem) fun vs n e r=>getMethod_list_of slot hty ⟨_,e,rfl,n,rfl⟩ ⟨_,e,rfl⟩ (hΦ s.toks)
theorem EM{name:Str}{id:String}{xs:List V}(slot:PySem.Slot "list" name id)(hty:typeOf (.builtin id)=pure (.type "method_descriptor")):WM c name (.lst xs) (.builtin id) σ:=by
 intro B s v pl Φ Ψ hr hc hΦ
 obtain⟨a,o,vs,n,h0,h1,h2,h3,h4⟩:=hr.inv
 exact getMethod_list_of slot hty ⟨_,hc.base.frz _ _ h1,h2,n,h3⟩ ⟨_,hc.base.frz _ _ h1,h0⟩ (hΦ s.toks)
theorem EO{name:Str}{id:String}{l:List (Str×V)}(slot:PySem.Slot "dict" name id)(hty:typeOf (.builtin id)=pure (.type "method_descriptor")):WM c name (.dct l) (.builtin id) σ:=by
 intro B s v pl Φ Ψ hr hc hΦ
 obtain⟨a,o,kvs,hz,h1,h2,h3⟩:=hr.inv
 have hd:=h2.at (hc.base.frz _ _ h1)
 exact getMethod_builtin hd.typeIs PySem.F.plainAttrs_dict slot hty hd.mapOf.noDict (hΦ s.toks)
theorem Dl{name:Str}{id:String}{a:Addr}{l:List (Str×V)}(ho:eV a (.dct l) σ.own)(slot:PySem.Slot "dict" name id)(hty:typeOf (.builtin id)=pure (.type "method_descriptor")):WM c name (.val (.ref a)) (.builtin id) σ:=by
 intro B s v pl Φ Ψ hr hc hΦ
 obtain rfl:=hr.inv
 refine aG (hc.own _ ho.mem) fun hz z0=>cJ.e z0 fun o es h1 h2 h3=>?_
 clear z0
 have hd:=h2.at h1
 exact getMethod_builtin hd.typeIs PySem.F.plainAttrs_dict slot hty hd.mapOf.noDict (hΦ s.toks)
theorem Di{name:Str}{id:String}{a:Addr}{l:List (Int×V)}(ho:eV a (.idct l) σ.own)(slot:PySem.Slot "dict" name id)(hty:typeOf (.builtin id)=pure (.type "method_descriptor")):WM c name (.val (.ref a)) (.builtin id) σ:=by
 intro B s v pl Φ Ψ hr hc hΦ
 obtain rfl:=hr.inv
 refine aG (hc.own _ ho.mem) fun hz z0=>cJ.e z0 fun o es h1 h2 h3=>?_
 clear z0
 have hd:=h2.at h1
 exact getMethod_builtin hd.typeIs PySem.F.plainAttrs_dict slot hty hd.mapOf.noDict (hΦ s.toks)
theorem fW{a:Addr}{xs:List V}(ho:eV a (.lst xs) σ.own):WM c "append" (.val (.ref a)) (.builtin "list.append") σ:=uB ho PySem.F.slot_list_append PySem.F.type_list_append
theorem lK{a:Addr}{xs:List V}(ho:eV a (.lst xs) σ.own):WM c "extend" (.val (.ref a)) (.builtin "list.extend") σ:=uB ho PySem.F.slot_list_extend PySem.F.type_list_extend
theorem EL{a:Addr}{xs:List V}(ho:eV a (.lst xs) σ.own):WM c "pop" (.val (.ref a)) (.builtin "list.pop") σ:=uB ho PySem.F.slot_list_pop PySem.F.type_list_pop
theorem t8{xs:List V}:WM c "index" (.lst xs) (.builtin "list.index") σ:=EM PySem.F.slot_list_index PySem.F.type_list_index
theorem EN{l:List (Str×V)}:WM c "get" (.dct l) (.builtin "dict.get") σ:=EO PySem.F.slot_dict_get PySem.F.type_dict_get
theorem Dj{a:Addr}{l:List (Str×V)}(ho:eV a (.dct l) σ.own):WM c "get" (.val (.ref a)) (.builtin "dict.get") σ:=Dl ho PySem.F.slot_dict_get PySem.F.type_dict_get
theorem Dk{a:Addr}{l:List (Int×V)}(ho:eV a (.idct l) σ.own):WM c "get" (.val (.ref a)) (.builtin "dict.get") σ:=Di ho PySem.F.slot_dict_get PySem.F.type_dict_get
theorem w6{x:Str}:WM c "upper" (.str x) (.builtin "str.upper") σ:=fun B s v pl Φ Ψ hr hc hΦ=>by obtain⟨_⟩:=hr.inv;exact GM.upper (hΦ s.toks)
theorem kW{x:Str}:WM c "lower" (.str x) (.builtin "str.lower") σ:=fun B s v pl Φ Ψ hr hc hΦ=>by obtain⟨_⟩:=hr.inv;exact GM.lower (hΦ s.toks)
theorem sJ{x:Str}:WM c "startswith" (.str x) (.builtin "str.startswith") σ:=fun B s v pl Φ Ψ hr hc hΦ=>by obtain⟨_⟩:=hr.inv;exact GM.startswith (hΦ s.toks)
theorem t7{x:Str}:WM c "index" (.str x) (.builtin "str.index") σ:=fun B s v pl Φ Ψ hr hc hΦ=>by obtain⟨_⟩:=hr.inv;exact GM.index (hΦ s.toks)
theorem uC{x:Str}:WM c "join" (.str x) (.builtin "str.join") σ:=fun B s v pl Φ Ψ hr hc hΦ=>by obtain⟨_⟩:=hr.inv;exact GM.join (hΦ s.toks)
theorem Conc.putList{a:Addr}{xs ys:List V}{own' :List (Addr×OV)}{vs:Array Value}{n:Nat}{f:Array Value→Array Value}{tk:Nat}(hc:Conc c σ B s)(hp:cM a (.lst xs) (.lst ys) σ.own own')(e:s.heap.get? a=some {cls:= .type "list",data:= .seq vs n})(hr:Reps c.g B ys (f vs).toList):
  Conc c ⟨σ.env,own'⟩ B {s with heap:=s.heap.update a (Obj.mapSeq f),toks:=tk}:=
 hc.putOwn hp (Heap.SameBut.update ..) ⟨_,_,PySem.IsL.update e f,hr⟩
theorem iW{a:Addr}{xs:List V}{x:V}{own' :List (Addr×OV)}(hp:cM a (.lst xs) (.lst (xs++[x])) σ.own own')(hz:xs.length≤sizeLine)(h:Q .none ⟨σ.env,own'⟩):WK c (.val (.builtin "list.append")) [.val (.ref a),x] σ X Q:=k2 fun B s v w Φ Ψ hr ht hc hΦ hΨ=>by
 obtain rfl:=hr.inv
 refine fT.e (hc.own _ hp.mem) fun vs n e r=>?_
 refine call_meets PySem.F.slot_list_append ⟨_,e,rfl⟩ PySem.F.entry_list_append (PySem.F.args_list_append_2 _ _) (PySem.AutoListH.list_append_list_val_0 a vs n w (by rw[←Array.length_toList,r.length];exact hz)) ⟨e,?_⟩
 exact hΦ _ _ _ B _ h .none (Fz.Le.refl B) (hc.putList hp e (f:=fun y=>y.push w) (by rw[Array.toList_push];exact r.append (.cons ht .nil)))
theorem nH{a:Addr}{xs ys:List V}{own' :List (Addr×OV)}(hp:cM a (.lst xs) (.lst (xs++ys)) σ.own own')(hz:xs.length+ys.length≤sizeLine)(h:Q .none ⟨σ.env,own'⟩):WK c (.val (.builtin "list.extend")) [.val (.ref a),.lst ys] σ X Q:=k2 fun B s v w Φ Ψ hr ht hc hΦ hΨ=>by
 obtain rfl:=hr.inv
 obtain⟨b,o,ws,n2,h0,h1,h2,h3,h4⟩:=ht.inv
 refine fT.e (hc.own _ hp.mem) fun vs n e r=>?_
 have eb:=hc.base.frz _ _ h1
 obtain⟨cls,dd,data,sl⟩:=o
 simp only at h2 h3
 subst h2 h3
 refine call_meets PySem.F.slot_list_extend ⟨_,e,rfl⟩ PySem.F.entry_list_extend (PySem.F.args_list_extend_2 _ _) (uS a vs n b ws n2 dd sl (by rw[←Array.length_toList,←Array.length_toList,r.length,h4.length];exact hz)) ⟨e,eb,?_⟩
 exact hΦ _ _ _ B _ h .none (Fz.Le.refl B) (hc.putList hp e (f:=fun y=>y++ws) (by rw[Array.toList_append];exact r.append h4))
theorem Reps.split{g:Gx}{xs:List V}:∀{y:V} {vs:List Value},Reps g B (xs++[y]) vs→cJ (fun us w=>vs=us++[w]) (fun us w=>Reps g B xs us) (fun us w=>c5 g B y w):=by
 induction xs with
 |nil=>intro y vs h;refine aH h.one fun w z2 r=>?_;exact⟨[],w,z2,.nil,r⟩
 |cons x xs ih=>
  intro y vs h
  cases h with
  |cons a r=>exact cJ.e (ih r) fun us w e h1 h2=>⟨_::us,w,by rw[e];rfl,.cons a h1,h2⟩
theorem G1{a:Addr}{xs:List V}{y:V}{own' :List (Addr×OV)}(hp:cM a (.lst (xs++[y])) (.lst xs) σ.own own')(hz:xs.length<sizeLine)(h:Q y ⟨σ.env,own'⟩):WK c (.val (.builtin "list.pop")) [.val (.ref a)] σ X Q:=k1 fun B s v Φ Ψ hr hc hΦ hΨ=>by
 obtain rfl:=hr.inv
 refine fT.e (hc.own _ hp.mem) fun vs n e r=>cJ.e r.split fun us w e1 r1 r2=>?_
 have ev:vs=(us++[w]).toArray:=by rw[←e1,Array.toArray_toList]
 subst ev
 have hsz:(us++[w]).toArray.size=us.length+1:=by simp
 have hy:(us++[w]).toArray[(us++[w]).toArray.size-1]? =some w:=by rw[hsz];simp
 refine call_meets PySem.F.slot_list_pop ⟨_,e,rfl⟩ PySem.F.entry_list_pop (PySem.F.args_list_pop_1 _) (PySem.MeetsSeq.list_pop_last a _ n w hy (by rw[hsz,r1.length];exact hz)) ⟨e,?_⟩
 refine hΦ _ _ _ B _ h r2 (Fz.Le.refl B) (hc.putList (tk:=s.toks) hp e (f:=fun x=>x.eraseIdxIfInBounds ((us++[w]).toArray.size-1)) ?_)
 show Reps c.g B xs ((us++[w]).toArray.eraseIdxIfInBounds _).toList
 rw[hsz,Nat.add_sub_cancel,kl_erase us [] w,List.append_nil]
 exact r1
theorem Ak{x:Str}(hz:x.length≤5592405)(h:(Txt.upper x).length≤3*x.length→Q (.str (Txt.upper x)) σ):WK c (.val (.builtin "str.upper")) [.str x] σ X Q:=k1 fun B s v Φ Ψ hr hc hΦ hΨ=>by
 obtain⟨_⟩:=hr.inv;exact SCL.upper hz fun hl=>hΦ _ _ σ B _ (h hl) .str (Fz.Le.refl B) (hc.toks _)
theorem nG{x:Str}(hz:x.length≤5592405)(h:(Txt.lower x).length≤3*x.length→Q (.str (Txt.lower x)) σ):WK c (.val (.builtin "str.lower")) [.str x] σ X Q:=k1 fun B s v Φ Ψ hr hc hΦ hΨ=>by
 obtain⟨_⟩:=hr.inv;exact SCL.lower hz fun hl=>hΦ _ _ σ B _ (h hl) .str (Fz.Le.refl B) (hc.toks _)
theorem uW{x y:Str}(h:Q (.bool (Txt.startswith x y)) σ):WK c (.val (.builtin "str.startswith")) [.str x,.str y] σ X Q:=k2 fun B s v w Φ Ψ hr ht hc hΦ hΨ=>by
 obtain⟨_⟩:=hr.inv;obtain⟨_⟩:=ht.inv;exact SC.startswith (hΦ _ _ σ B _ h .bool (Fz.Le.refl B) hc)
theorem x8{x y:Str}{i:Nat}{rest:List Nat}(ho:PySem.Builtin.Str.occurrences x y 0 x.length 1=i::rest)(h:Q (.int i) σ):WK c (.val (.builtin "str.index")) [.str x,.str y] σ X Q:=k2 fun B s v w Φ Ψ hr ht hc hΦ hΨ=>by
 obtain⟨_⟩:=hr.inv;obtain⟨_⟩:=ht.inv;exact SC.index ho (hΦ _ _ σ B _ h .int (Fz.Le.refl B) (hc.toks _))
theorem Ch{x:Str}{ys:List Str}(hz:(ys.map (·.length)).sum+ys.length*x.length≤16777216)(h:Q (.str (Txt.join x ys)) σ):WK c (.val (.builtin "str.join")) [.str x,.lst (V.strs ys)] σ X Q:=k2 fun B s v w Φ Ψ hr ht hc hΦ hΨ=>by
 obtain⟨_⟩:=hr.inv
 obtain⟨a,o,vs,n,h0,h1,h2,h3,h4⟩:=ht.inv
 exact join_list ⟨o,hc.base.frz _ _ h1,h2,n,h3⟩ h4.strs hz fun t' k=>hΦ _ _ σ B _ h .str (Fz.Le.refl B) (hc.toks _)
theorem DG{a:Addr}{x:Str}{ys:List Str}(ho:eV a (.lst (V.strs ys)) σ.own)(hz:(ys.map (·.length)).sum+ys.length*x.length≤16777216)(h:Q (.str (Txt.join x ys)) σ):WK c (.val (.builtin "str.join")) [.str x,.val (.ref a)] σ X Q:=k2 fun B s v w Φ Ψ hr ht hc hΦ hΨ=>by
 obtain⟨_⟩:=hr.inv
 obtain rfl:=ht.inv
 exact fT.e (hc.own _ ho.mem) fun vs n e r=>join_list ⟨_,e,rfl,n,rfl⟩ r.strs hz fun t' k=>hΦ _ _ σ B _ h .str (Fz.Le.refl B) (hc.toks _)
theorem xA{x:Str}{ys:List Str}{j:Nat}(hj:j<ys.length)(hz:ys.length≤sizeLine)(hit:ys[j]=x)(hno:∀m (hm:m<ys.length),m<j→ys[m]≠x)(h:Q (.int j) σ):WK c (.val (.builtin "list.index")) [.lst (V.strs ys),.str x] σ X Q:=k2 fun B s v w Φ Ψ hr ht hc hΦ hΨ=>by
 obtain⟨a,o,vs,n,h0,h1,h2,h3,h4⟩:=hr.inv
 obtain⟨t⟩:=ht.inv
 have eb:=hc.base.frz _ _ h1
 obtain⟨cls,dd,data,sl⟩:=o
 simp only at h2 h3
 subst h2 h3
 have hi:=h4.strs
 have hlen:vs.size=ys.length:=by rw[←Array.length_toList,hi.length]
 have get:∀m (hm:m<vs.size),isStrOf x vs[m]=(ys[m]'(by omega)==x):=fun m hm=>by
  have e1:vs.toList[m]? =some vs[m]:=by rw[Array.getElem?_toList,Array.getElem?_eq_getElem hm]
  refine cI (hi.item m _ e1) fun y z0=>aH z0 fun t e2 e3=>?_
  clear z0
  rw[e2]
  have e4:ys[m]'(by omega)=y:=by
   have:ys[m]? =some (ys[m]'(by omega)):=List.getElem?_eq_getElem _
   rw[e3] at this;cases this;rfl
  rw[e4];rfl
 refine call_meets PySem.F.slot_list_index ⟨_,eb,rfl⟩ PySem.F.entry_list_index (PySem.F.args_list_index_2 _ _)
  (list_indexAt a vs n dd sl (.str x t) (isStrOf x) j (by omega) (by have:sizeLine=16777216:=rfl;omega) ?_ ?_) ⟨eb,fun y hy=>(eq_isStrOf x t hi y (by simpa using hy)).at _ _,hΦ _ _ σ B _ h .int (Fz.Le.refl B) (hc.toks _)⟩
 ·rw[get,beq_iff_eq];exact hit
 ·intro m hm hlt
  rw[get,beq_eq_false_iff_ne]
  exact hno m (by omega) hlt
theorem F9{l:List (Str×V)}{k:Str}(h:Q ((aT l k).getD .none) σ):WK c (.val (.builtin "dict.get")) [.dct l,.str k] σ X Q:=k2 fun B s v w Φ Ψ hr ht hc hΦ hΨ=>by
 obtain⟨a,o,kvs,hz,h1,h2,h3⟩:=hr.inv
 obtain⟨t⟩:=ht.inv
 have hd:=h2.at (hc.base.frz _ _ h1)
 refine call_meetsIn PySem.F.slot_dict_get hd.typeIs PySem.F.entry_dict_get (PySem.F.args_dict_get_2 _ _) (meets_dict_get (PySem.strKind c.g.prog c.g.w) a (k:=k) (strKind_is _ _ k t) hz) ⟨_,hd.mapOf,hΦ _ _ σ B _ h ?_ (Fz.Le.refl B) (hc.toks _)⟩
 rcases h3.at (k:=k) with⟨e1,e2⟩|⟨x,w,e1,e2,hx⟩
 ·rw[e1,e2];exact .none
 ·rw[e1,e2];exact hx
theorem DI{a:Addr}{l:List (Str×V)}{k:Str}(ho:eV a (.dct l) σ.own)(h:Q ((aT l k).getD .none) σ):WK c (.val (.builtin "dict.get")) [.val (.ref a),.str k] σ X Q:=k2 fun B s v w Φ Ψ hr ht hc hΦ hΨ=>by
 obtain rfl:=hr.inv
 obtain⟨t⟩:=ht.inv
 refine aG (hc.own _ ho.mem) fun hz z0=>cJ.e z0 fun o es h1 h2 h3=>?_
 clear z0
 have hd:=h2.at h1
 refine call_meetsIn PySem.F.slot_dict_get hd.typeIs PySem.F.entry_dict_get (PySem.F.args_dict_get_2 _ _) (meets_dict_get (PySem.strKind c.g.prog c.g.w) a (k:=k) (strKind_is _ _ k t) hz) ⟨_,hd.mapOf,hΦ _ _ σ B _ h ?_ (Fz.Le.refl B) (hc.toks _)⟩
 rcases h3.at (k:=k) with⟨e1,e2⟩|⟨x,w,e1,e2,hx⟩
 ·rw[e1,e2];exact .none
 ·rw[e1,e2];exact hx
theorem DH{a:Addr}{l:List (Int×V)}{k:Int}{d:V}(ho:eV a (.idct l) σ.own)(h:Q ((aT l k).getD d) σ):WK c (.val (.builtin "dict.get")) [.val (.ref a),.int k,d] σ X Q:=by
 intro B s fv vs Φ Ψ hf hr hc hΦ hΨ
 obtain rfl:=hf.inv
 refine gY.e hr.three fun u v w z0 r1 r2 r3=>?_
 subst z0
 obtain rfl:=r1.inv
 obtain⟨t⟩:=r2.inv
 refine aG (hc.own _ ho.mem) fun hz z0=>cJ.e z0 fun o es h1 h2 h3=>?_
 clear z0
 have hd:=h2.at h1
 refine call_meetsIn PySem.F.slot_dict_get hd.typeIs PySem.F.entry_dict_get (PySem.F.args_dict_get_3 _ _ _) (meets_dict_get_default (PySem.intKind c.g.prog c.g.w) a (k:=k) (by simp[PySem.intKind,Value.isInt]) hz w) ⟨_,hd.mapOf,hΦ _ _ σ B _ h ?_ (Fz.Le.refl B) (hc.toks _)⟩
 rcases h3.at (k:=k) with⟨e1,e2⟩|⟨x,w,e1,e2,hx⟩
 ·rw[e1,e2];exact r3
 ·rw[e1,e2];exact hx
theorem WT.pen{α β:Type}{R:Fz→β→α→Prop}{t:Sem α}{Q:β→St→Prop}{a:Addr}{xs:List V}{own' :List (Addr×OV)}(hp:cM a (.lst xs) (.pen xs) σ.own own')(h:WT c R t ⟨σ.env,own'⟩ X Q):WT c R t σ X Q:=by
 intro B s Φ Ψ hc hΦ hΨ
 have hM:bF c ⟨σ.env,own'⟩=bF c σ:=by simp[bF,hp.keys]
 refine h B s Φ Ψ ⟨by rw[hM];exact hc.base,hc.names,hc.vars,fun p hp' =>?_⟩ hΦ hΨ
 rcases hp.of (bF.split hc.base.nod).2.2.2.1 p hp' with rfl|⟨h1,_⟩
 ·exact(hc.own _ hp.mem).list
 ·exact hc.own p h1
end
end
section
open PySem.SeqAt
section
variable {prog:Program}{w:World}{A:Around}{E:Value→Shared→Prop}{R:Result→Shared→Prop}{s:Shared}{K:Frag}{x C dx:Addr}{es:List DictEntry}{n:Nat}{name:Str}{v:Value}
theorem Dz{tk:Tok}(X:K.In s.heap)(hx:s.heap.get? x=some (instObj C dx))(D:s.heap.get? dx=some (dictOf es n))(hp:plainOver K C=true)(ht:takerIn K C name=some none)(hh:(clsIn K C).any (·.hasDict)=true)
  (hl:(getL name es).isSome=true) (hz:es.length≤1000)
  (h:∀h',h'.get? dx=some (dictOf (putL name (PyData.keyHash w.params name) (.str name s.toks) v es) (putN name es n))→Heap.SameBut dx s.heap h'→R (.ok (.ret .none)) {s with heap:=h',toks:=s.toks+1}):
  codeAny (model prog w) A (.call (.builtin "object.__setattr__") ⟨[.ref x,.str name tk,v],[]⟩) R s:=by
 have I:InstAt s.heap x (instObj C dx) C (some (dictOf es n)):=⟨hx,rfl,rfl,D⟩
 refine osa_open X I hp ht fun b=>aH (any_some hh) fun cd hc hd' =>?_
 have D' :(s.heap.update dx (Obj.putName name (PyData.keyHash w.params name) (.str name s.toks) v)).get? dx=some (dictOf (putL name (PyData.keyHash w.params name) (.str name s.toks) v es) (putN name es n)):=by
  have:=Heap.get?_update_self (Obj.putName name (PyData.keyHash w.params name) (.str name s.toks) v) D (by rw[putName_dict];rfl)
  rw[putName_dict] at this;exact this
 refine wpAny_bind (wpAny_pure (wpAny_bind (wpAny_bind (wpAny_loadPart hx (wpAny_bind ((looks_clsIn X hc).here ?_))))))
 rw[hd']
 refine wpAny_pure (a:=some dx) (wpAny_bind (wpAny_pure (wpAny_bind ?_)))
 unfold nsSet
 refine wpAny_bind (wpAny_bind (wpAny_askSetting (wpAny_pure (wpAny_bind (wpAny_mkText (wpAny_bind (wpAny_loadPart D ?_)))))))
 dsimp only
 have c:(!es.toArray.any (·.key.isStr name)&&es.toArray.any (·.refKey))=false:=by
  rw[←Array.any_toList,←Array.any_toList]
  unfold getL at hl
  split at hl
  ·rename_i en he
   rw[List.any_eq_true.mpr ⟨en,List.mem_of_find?_eq_some he,List.find?_some he⟩];rfl
  ·split at hl
   ·cases hl
   ·rename_i z;rw[Bool.not_eq_true] at z;simp only[z,Bool.and_false]
 rw[aRefKeyMayBeTheName_at,c]
 refine wpAny_updatePart D ?_
 have hlen:(putL name (PyData.keyHash w.params name) (.str name s.toks) v es).length≤1001:=by
  have:∀(es:List DictEntry),(putL name (PyData.keyHash w.params name) (.str name s.toks) v es).length≤es.length+1:=by
   intro es
   induction es with
   |nil=>simp[putL]
   |cons e r ih=>unfold putL;split<;>simp<;>assumption
  have:=this es
  exact aI [_,_] [] (.Le .x (.n 1000)) 1 (.Le .w (.a .x (.n 1))) 1 (.Le .w (.n 1001)) 0 qq hz this
 refine wpAny_bind (wpAny_lookBehind D' (by exact pastItsLine_dict (by rw[List.size_toArray,sizeLine_eq];exact aB [_] [] (.Le .w (.n 1001)) 1 (.Le .w (.a (.n 16777216) (.n 1))) 0 qq hlen)) ?_)
 exact wpAny_pure (h _ D' (Heap.SameBut.update ..))
theorem Du{Q:Unit→Shared→Prop}(X:K.In s.heap)(hx:s.heap.get? x=some (instObj C dx))(D:s.heap.get? dx=some (dictOf es n))(hs:findIn K (.ref C) "__setattr__" =some (some (.builtin "object.__setattr__")))(hp:plainOver K C=true)(ht:takerIn K C name=some none)(hh:(clsIn K C).any (·.hasDict)=true)
  (hl:(getL name es).isSome=true) (hz:es.length≤1000)
  (h:∀h' t tk,h'.get? dx=some (dictOf (putL name (PyData.keyHash w.params name) (.str name t) v es) (putN name es n))→Heap.SameBut dx s.heap h'→Q () {s with heap:=h',toks:=tk}):
  wpAny (model prog w) A (setAttr (.ref x) name v) Q E s:=by
 have I:InstAt s.heap x (instObj C dx) C (some (dictOf es n)):=⟨hx,rfl,rfl,D⟩
 exact set_plain X I hs (Dz (s:={s with toks:=s.toks+1}) X hx D hp ht hh hl hz fun h' e hb=>h h' _ _ e hb)
theorem Pairs.put{hsh:Int}{t:Tok}{es:List DictEntry}{kvs:List (Str×Value)}(p:Pairs (PySem.strKind prog w) es kvs):name∉kvs.map (·.1)→
  putL name hsh (.str name t) v es=es++[⟨hsh,.str name t,v⟩]∧Pairs (PySem.strKind prog w) (es++[⟨hsh,.str name t,v⟩]) (kvs++[(name,v)]):=by
 refine p.rec (motive:=fun es kvs _=>name∉kvs.map (·.1)→putL name hsh (.str name t) v es=es++[⟨hsh,.str name t,v⟩]∧Pairs (PySem.strKind prog w) (es++[⟨hsh,.str name t,v⟩]) (kvs++[(name,v)])) (fun _=>⟨rfl,.cons (by simp[PySem.strKind,Value.isStrOf]) rfl .nil⟩) ?_
 intro e kv es kvs h1 h2 r ih hn
 obtain⟨k,u⟩:=kv
 refine cI (Value.isStrOf_shape (show Value.isStrOf k e.key=true from h1)) fun tt ht=>?_
 simp only[List.map_cons,List.mem_cons,not_or] at hn
 refine aG (ih hn.2) fun i1 i2=>?_
 have hkey:e.key.isStr name=false:=by rw[ht];simp[Value.isStr];exact fun q=>hn.1 q.symm
 refine⟨?_,.cons h1 h2 i2⟩
 unfold putL
 rw[hkey,i1];rfl
end
section
variable {c:Cx}{σ:St}{X:Value→St→Prop}{B:Fz}{s:Shared}
structure iY(K:Frag)(C:Addr)(name:Str):Prop where
 hs:findIn K (.ref C) "__setattr__" =some (some (.builtin "object.__setattr__"))
 hp:plainOver K C=true
 ht:takerIn K C name=some none
 hh:(clsIn K C).any (·.hasDict)=true
theorem fX{o value:Expr}{name:Str}{p' p:Pos}{Q:Fl→St→Prop}
  (h:WE c value σ X fun x σ₁=>WE c o σ₁ X fun ov σ₂=>BA (fun C d l own' =>ov= .ins C d) (fun C d l own' =>iY c.g.K C name) (fun C d l own' =>name∉l.map (·.1)) (fun C d l own' =>l.length≤999) (fun C d l own' =>cM d (.dct l) (.dct (l++[(name,x)])) σ₂.own own') (fun C d l own' =>Q .next ⟨σ₂.env,own'⟩))
  (hs:autoParam (swapsWith value (some (.Attribute o name p')) p.line c.env=pure false) c8):W1 c (.Assign [.Attribute o name p'] value p) σ X Q:=by
 intro B s Φ Ψ hc hΦ hΨ
 rw[plainObj_exec_Assign_Attribute o name p' value p hs]
 refine wpAny_bind (wpAny_standAt (wpAny_bind (h B s _ Ψ hc (fun v x σ₁ B₁ s₁ hq hr hle hc₁=>?_) hΨ)))
 rw[assign_Attribute]
 refine wpAny_bind (wpAny_bind (wpAny_holding (hq B₁ s₁ _ Ψ hc₁ (fun ow ov σ₂ B₂ s₂ hq₂ hr₂ hle₂ hc₂=>?_) hΨ)))
 refine BA.e hq₂ fun C d l own' z0 ok hn hz hp hq=>?_
 clear hq₂
 subst z0
 obtain⟨a,h1⟩:=hr₂.inv
 refine aG (hc₂.own _ hp.mem) fun hy z0=>cJ.e z0 fun ob kvs h2 z2 h4=>?_
 clear z0
 refine E2x5.e z2 fun es ep he hd hk hpr hnd=>?_
 clear z2
 obtain⟨cls,dd,data,sl⟩:=ob
 refine eT he fun e1 e2 e3=>?_
 clear he
 simp only at e1 e2 e3 hd
 subst e1 e2 e3 hd
 have hn' :name∉kvs.map (·.1):=by rw[h4.keys];exact hn
 have hlen:es.toList.length=l.length:=by rw[hpr.length,←h4.length]
 refine wpAny_bind (wpAny_standAt (wpAny_bind (wpAny_holding (Du (es:=es.toList) hc₂.inK (hc₂.base.frz _ _ h1) h2 ok.hs ok.hp ok.ht ok.hh ?_ (by exact aI [_,_] [] (.Le .x (.n 999)) 1 (.Eq .w .x) 1 (.Le .w (.n 1000)) 0 qq hz hlen) fun h' t tk e hb=>?_))))
 ·rw[qS hpr];rfl
 ·refine wpAny_release (wpAny_pure (hΦ _ _ _ B₂ _ hq .next (hle.trans hle₂) (hc₂.putOwn (tk:=tk) hp hb ?_)))
  refine aG (Pairs.put (prog:=c.g.prog) (w:=c.g.w) (name:=name) (v:=v) (hsh:=PyData.keyHash c.g.w.params name) (t:=t) hpr hn') fun q1 q2=>?_
  rw[q1] at e
  refine⟨hy,_,kvs++[(name,v)],e,⟨_,_,⟨rfl,rfl,rfl⟩,rfl,?_,by simpa using q2,?_⟩,h4.append (.cons (hr.mono hle₂) .nil)⟩
  ·intro e' he'
   have:e'∈es.toList++[⟨PyData.keyHash c.g.w.params name,.str name t,v⟩]:=by simpa using he'
   rcases List.mem_append.mp this with h3|h3
   ·exact hk e' (by simpa using h3)
   ·rw[List.mem_singleton.mp h3]
    exact⟨name,by simp[PySem.strKind,Value.isStrOf],rfl⟩
  ·rw[List.map_append,List.nodup_append]
   exact⟨hnd,by simp,fun a ha b hb e=>hn' (by simp at hb;rw[←hb,←e];exact ha)⟩
end
end
section
open PySem.SeqAt
theorem CV.create{A:Around}{outer:List Env}{n:Nat}{C:Addr}{rest:List Value}{kw:List (Str×Value)}(r:CV A outer (n+1)):CV (A.under (.builtin "type.__call__" ⟨.ref C::rest,kw⟩)) outer n:=by
 have hw:Code.weight (.builtin "type.__call__" ⟨.ref C::rest,kw⟩)=1:=by unfold Code.weight;rfl
 have hu:Code.cUnits (.builtin "type.__call__" ⟨.ref C::rest,kw⟩)=1:=rfl
 refine⟨r.handled,?_,?_,?_⟩
 ·unfold Around.under
  rw[r.frames];rfl
 ·show A.depth+_+_≤_
  rw[hw];have:=r.depth;exact aB [_,_] [] (.Le (.a .w (.m 4 (.a .x (.n 1)))) (.n 900)) 1 (.Le (.a (.a .w (.n 1)) (.m 4 .x)) (.n 900)) 0 qq this
 ·show A.units+_+_≤_
  rw[hu];have:=r.units;exact aB [_,_] [] (.Le (.a .w (.m 30 (.a .x (.n 1)))) (.n 9000)) 1 (.Le (.a (.a .w (.n 1)) (.m 30 .x)) (.n 9000)) 0 qq this
theorem f7.push{g:Gx}{B:Fz}{h:Heap}{a:Addr}{ov:OV}(x:f7 g B h a ov)(o:Obj):f7 g B (h.push o) a ov:=x.at fun _ e=>Heap.get?_push_of_some _ e
theorem CM{g:Gx}{C fI:Addr}{xs:List V}{own:List (Addr×OV)}{X:XO}{Q:V→List (Addr×OV)→Prop}{n:Nat}(hm:makesIn g.K C=true)(hi:findIn g.K (.ref C) "__init__" =some (some (.ref fI)))(hf:typeIn g.K (.ref fI)=some (.type "function"))
  (h:∀d,d∉own.map (·.1)→aS g n (.val (.ref fI)) (.ins C d::xs) ((d,.dct [])::own) X (fun v own' =>v= .none∧fT (fun l rest=>yE d (.dct l) own' rest) (fun l rest=>Q (.obj C l) rest))):aS g (n+1) (.val (.ref C)) xs own X Q:=by
 intro A outer B s fv vs R r hc hfv hv hR hX
 obtain rfl:=hfv.inv
 have X' :g.K.In s.heap:=g.hK.keeps fun a o e=>hc.frz a o (hc.TB a o e)
 obtain⟨hh,gs,dr,tk,os⟩:=s
 refine make_core (makes_of X' hm) (looks_findIn X' hi) (fun self=>bind_fn X' self hf) (.inl rfl) ?_
 have hdl:hh.objs.size∉own.map (·.1):=fun q=>by
  refine aH (List.mem_map.mp q) fun p hp e=>cI ((hc.owns p hp).get) fun o eo=>?_
  have:=Heap.lt_size eo
  rw[e] at this
  exact Nat.lt_irrefl _ this
 have fresh:∀a,hh.objs.size≤a→B a=none:=fun a ha=>by
  cases q:B a with
  |none=>rfl
  |some o=>exact absurd (Heap.lt_size (hc.frz a o q)) (Nat.not_lt.mpr ha)
 have hsz:((hh.push emptyDict).push (instObj C hh.objs.size)).objs.size=hh.objs.size+2:=by rw[Heap.size_push,Heap.size_push]
 have ed:((hh.push emptyDict).push (instObj C hh.objs.size)).get? hh.objs.size=some emptyDict:=Heap.get?_push_of_some _ (Heap.get?_push_size _ rfl)
 have ei:((hh.push emptyDict).push (instObj C hh.objs.size)).get? (hh.objs.size+1)=some (instObj C hh.objs.size):=by
  have:=Heap.get?_push_size (h:=hh.push emptyDict) (o:=instObj C hh.objs.size) rfl
  rwa [Heap.size_push] at this
 have old:∀a o,hh.get? a=some o→((hh.push emptyDict).push (instObj C hh.objs.size)).get? a=some o:=fun a o e=>Heap.get?_push_of_some _ (Heap.get?_push_of_some _ e)
 have hBl:B.Le (B.put (hh.objs.size+1) (instObj C hh.objs.size)):=Fz.Le.put _ (fresh _ (by exact aZ [_] [] (.Le .w (.a .w (.n 1))) 0 qq))
 have hTlt:sysModules<hh.objs.size:=by
  refine cI g.hg fun o z0=>cI z0 fun es z2=>?_
  clear z0
  refine aH z2 fun ep e _=>?_
  clear z2
  have h1:=Heap.lt_size (hc.frz _ _ (hc.TB _ _ e))
  have h2:sysModules<mainGlobals:=by decide
  exact Nat.lt_trans h2 h1
 have hc₁:yA g outer ((hh.objs.size,.dct [])::own) (B.put (hh.objs.size+1) (instObj C hh.objs.size)) ⟨(hh.push emptyDict).push (instObj C hh.objs.size),gs,dr,tk,os⟩:=by
  refine⟨fun a o e=>hBl a o (hc.TB a o e),fun a o e=>?_,fun p hp=>?_,?_,fun p hp=>?_,fun e he=>?_⟩
  ·unfold Fz.put at e
   split at e
   ·rename_i q;cases e;rw[q];exact ei
   ·exact old a o (hc.frz a o e)
  ·rcases List.mem_cons.mp hp with rfl|hp
   ·refine⟨?_,_,[],ed,⟨#[],_,⟨rfl,rfl,rfl⟩,rfl,(fun j hj=>by simp at hj),.nil,List.nodup_nil⟩,.nil⟩
    simp only[beq_eq_false_iff_ne,ne_eq];exact Nat.ne_of_gt hTlt
   ·exact(((hc.owns p hp).push _).push _).mono hBl
  ·exact List.nodup_cons.mpr ⟨hdl,hc.nod⟩
  ·rcases List.mem_cons.mp hp with rfl|hp
   ·show(if hh.objs.size=hh.objs.size+1 then _ else _)=none
    rw[if_neg (Nat.ne_of_lt (Nat.lt_succ_self _))];exact fresh _ (Nat.le_refl _)
   ·unfold Fz.put
    rw[if_neg (fun q=>?_)]
    ·exact hc.onB p hp
    ·refine cI ((hc.owns p hp).get) fun o eo=>?_
     have:=Heap.lt_size eo
     rw[q] at this
     exact absurd this (Nat.not_lt.mpr (Nat.le_succ _))
  ·refine aG (hc.outer e he) fun a1 z0=>E2x5.e z0 fun L o a2 a3 a4 a5 a6=>?_
   clear z0
   have hL:=Heap.lt_size a4
   simp only at hL
   refine⟨a1,L,o,a2,?_,old _ _ a4,a5,fun q=>?_⟩
   ·unfold Fz.put;rw[if_neg (Nat.ne_of_lt (Nat.lt_succ_of_lt hL))];exact a3
   ·rcases List.mem_cons.mp q with q|q
    ·exact absurd q (Nat.ne_of_lt hL)
    ·exact a6 q
 have back:∀own' B' s',mJ g outer ((hh.objs.size,.dct [])::own) own' (B.put (hh.objs.size+1) (instObj C hh.objs.size)) ⟨(hh.push emptyDict).push (instObj C hh.objs.size),gs,dr,tk,os⟩ B' s'→mJ g outer own own' B ⟨hh,gs,dr,tk,os⟩ B' s' :=fun own' B' s' ha=>by
  refine pJ.e ha.rest fun h' tk' z0=>?_
  subst z0
  refine⟨⟨h',tk',rfl⟩,Nat.le_trans (by rw[hsz];exact Nat.le_add_right _ 2) ha.size,fun a o e hn=>?_,hBl.trans ha.Bold,fun a o e hl=>?_,ha.frz,ha.owns,ha.nod,fun p hp=>?_⟩
  ·have hl:=Heap.lt_size e
   simp only at hl
   refine ha.stay a o (old a o e) fun q=>?_
   rcases List.mem_cons.mp q with q|q
   ·exact absurd q (Nat.ne_of_lt hl)
   ·exact hn q
  ·simp only at hl
   have:=ha.Bnew a o e (by show a<((hh.push emptyDict).push (instObj C hh.objs.size)).objs.size;rw[hsz];exact Nat.lt_of_lt_of_le hl (Nat.le_add_right _ 2))
   unfold Fz.put at this
   rw[if_neg (Nat.ne_of_lt (Nat.lt_succ_of_lt hl))] at this
   exact this
  ·refine aG (ha.onB p hp) fun b1 b2=>?_
   refine⟨b1,?_⟩
   rcases b2 with b2|b2
   ·rcases List.mem_cons.mp b2 with b2|b2
    ·exact .inr (by rw[b2];exact Nat.le_refl _)
    ·exact .inl b2
   ·exact .inr (Nat.le_trans (by rw[hsz];exact Nat.le_add_right _ 2) b2)
 refine h hh.objs.size hdl _ outer _ _ (.ref fI) (.ref (hh.objs.size+1)::vs) _ r.create hc₁ .val (.cons (.ins (Fz.put_self _ _ _)) (hv.mono hBl)) ?_ ?_
 ·intro v x own' B' s' z0
  refine aG z0 fun z1 z2=>?_
  clear z0
  subst z1
  refine fT.e z2 fun l rest hd hq=>?_
  clear z2
  intro hrep ha
  obtain rfl:=hrep.inv
  refine⟨rfl,?_⟩
  have hb:=back own' B' s' ha
  have hmem:(hh.objs.size,OV.dct l)∈own' :=hd.perm.mem_iff.mpr (List.mem_cons_self ..)
  refine aG (hb.owns _ hmem) fun hz z0=>cJ.e z0 fun o kvs e1 e2 e3=>?_
  clear z0
  refine aG (hb.onB _ hmem) fun b1 _=>?_
  have hBl' :=Fz.Le.put o b1
  have hnod:(hh.objs.size::rest.map (·.1)).Nodup:=(List.Perm.map Prod.fst hd.perm).nodup_iff.mp hb.nod
  have hsub:∀p∈rest,p∈own' :=fun p hp=>hd.perm.mem_iff.mpr (List.mem_cons_of_mem _ hp)
  refine hR _ (.obj C l) rest (B'.put hh.objs.size o) s' hq (.obj ?_ (Fz.put_self _ _ _) e2 (e3.mono hBl')) ⟨hb.rest,hb.size,hb.stay,hb.Bold.trans hBl',fun a o' e hl=>?_,fun a o' e=>?_,fun p hp=>(hb.owns p (hsub p hp)).mono hBl',(List.nodup_cons.mp hnod).2,fun p hp=>?_⟩
  ·exact hBl' _ _ (ha.Bold _ _ (Fz.put_self _ _ _))
  ·unfold Fz.put at e
   simp only at hl
   rw[if_neg (Nat.ne_of_lt hl)] at e
   exact hb.Bnew a o' e hl
  ·unfold Fz.put at e
   split at e
   ·rename_i q;cases e;rw[q];exact e1
   ·exact hb.frz a o' e
  ·refine aG (hb.onB p (hsub p hp)) fun c1 c2=>?_
   refine⟨?_,c2⟩
   unfold Fz.put
   rw[if_neg (fun q=>(List.nodup_cons.mp hnod).1 (by rw[←q];exact List.mem_map_of_mem hp))]
   exact c1
 ·intro ea cls own' B' s' hx ha hF
  refine hX ea cls own' B' s' hx (back own' B' s' ha) ?_
  have hs:hh.objs.size≤((hh.push emptyDict).push (instObj C hh.objs.size)).objs.size:=by rw[hsz];exact Nat.le_add_right _ 2
  refine aG hF fun z0 z1=>?_
  clear hF
  refine aG z0 fun f1 f2=>?_
  clear z0
  refine lJ.e z1 fun oe vs' T oT ts g1 g2 g3 g4 g5 z4 g8 g9 g10=>?_
  clear z1
  refine aG z4 fun g6 g7=>?_
  clear z4
  exact⟨⟨Nat.le_trans hs f1,f2⟩,oe,vs',T,oT,ts,g1,g2,g3,g4,g5,⟨Nat.le_trans hs g6,g7⟩,g8,g9,g10⟩
section
variable {c:Cx}{σ:St}{X:Value→St→Prop}
theorem Cz{p:Pos}{Q:V→St→Prop}(h:∀a,qH c a→Q (.val (.ref a)) ⟨σ.env,(a,.idct [])::σ.own⟩):WE c (.Dict [] [] p) σ X Q:=by
 intro B s Φ Ψ hc hΦ hΨ
 rw[eval_Dict_empty]
 refine wpAny_bind (wpAny_standAt ?_)
 unfold newDict
 refine wpAny_newObj_type ?_
 refine hΦ _ _ _ _ _ (h _ hc.base.size) .val (Fz.Le.refl B) (hc.pushO _ (.idct []) s.toks ?_)
 exact⟨hc.freshSys,_,[],Heap.get?_push_size _ rfl,⟨#[],_,⟨rfl,rfl,rfl⟩,rfl,(fun j hj=>by simp at hj),.nil,List.nodup_nil⟩,.nil⟩
end
end
section
open PySem.SeqAt
section
variable {prog:Program}{w:World}{A:Around}{E:Value→Shared→Prop}{R:Result→Shared→Prop}{h:Heap}{g:Array GenState}{d:Drawn}{t:Nat}{os:OsState}
variable {nm q:Str}{C N:Addr}{bs bm:List Value}{hdct:Bool}{sn:List Str}{sub:List Value}{ab:Bool}{col:Option Bool}{dd:Option Addr}{k0 k1 k2 k3 k5:Option Value}{Bn newId inN:String}{bmN:List Value}
theorem kE{M:Model}{base:Value}{b:Bool}{Q:Bool→Shared→Prop}(hC:h.get? C=some (excClassObj nm q C N bs bm hdct sn sub ab col dd k0 k1 k2 k3 k5 newId))(hb:(Value.ref C::bm).contains base=b)(hq:Q b ⟨h,g,d,t,os⟩):wpAny M A (isSubtype (.ref C) base) Q E ⟨h,g,d,t,os⟩:=wpAny_isSubtype_exc hC (by rw[hb];exact hq)
theorem sT{M:Model}(Fn:ExcBaseFacts Bn newId inN bmN)(hcB:(Value.ref C::bm).contains (.type Bn)=true){rest:List Value}{Q:Unit→Shared→Prop}(hC:h.get? C=some (excClassObj nm q C N bs bm hdct sn sub ab col dd k0 k1 k2 k3 k5 newId))
  (hq:Q () ⟨h,g,d,t,os⟩):wpAny M A (checkBuiltinCall newId ⟨.ref C::rest,[]⟩) Q E ⟨h,g,d,t,os⟩:=by
 have hstar:=Fn.noStar
 delta checkBuiltinCall
 rw[Fn.newKind,Fn.newSplit]
 dsimp only
 repeat (first|refine wpAny_loadPart_at hC ?_|refine kE hC hcB ?_|refine wpAny_staticBase_exc hC ?_|refine wpAny_madeBy_exc hC ?_|simp only[bne_self_eq_false,Bool.false_eq_true,if_false]|wp_step)
 rw[Fn.newRow]
 repeat wp_step
 exact hq
theorem DN(Fn:ExcBaseFacts Bn newId inN bmN)(hcB:(Value.ref C::bm).contains (.type Bn)=true)(hcA:(Value.ref C::bm).contains (.type "AttributeError")=false)(hcN:(Value.ref C::bm).contains (.type "NameError")=false)
  {rest:List Value} (hC:h.get? C=some (excClassObj nm q C N bs bm hdct sn sub ab col dd k0 k1 k2 k3 k5 newId))
  (hq:R (.ok (.ret (.ref (h.objs.size+1)))) ⟨(h.push {cls:= .type "tuple",data:= .seq rest.toArray}).push
   {cls:= .ref C,data:= .fields #[.ref h.objs.size,.none,.none,.none,.bool false,.none]},g,d,t,os⟩) (hrest:rest.length≤sizeLine):
  codeAny (model prog w) A (.builtin newId ⟨.ref C::rest,[]⟩) R ⟨h,g,d,t,os⟩:=by
 have hends:=Fn.ends
 refine codeAny_builtinAt Fn.entry ?_
 unfold Builtin.«BaseException.__new__»
 refine PySem.wpAt_bind ?_
 show PySem.wpAt _ _ _ (stack>>= _) _ _ _
 refine PySem.wpAt_bind (PySem.wpAt_stack fun p below=>PySem.wpAt_of_wpAny ?_)
 wp_walk
 refine PySem.wpAt_of_wpAny ?_
 rw[Fn.owner]
 repeat (first|with_reducible refine wpAny_madeHere_exc Fn.canon hC ?_|with_reducible refine wpAny_loadPart_at hC ?_|with_reducible refine kE hC hcB ?_|with_reducible refine kE hC hcA ?_|with_reducible refine kE hC hcN ?_|wp_step)
 show R _ _
 rw[Heap.size_push]
 exact hq
theorem sS{K:Frag}{fI:Addr}(Fn:ExcBaseFacts Bn newId inN bmN)(hcB:(Value.ref C::bm).contains (.type Bn)=true)(hcA:(Value.ref C::bm).contains (.type "AttributeError")=false)(hcN:(Value.ref C::bm).contains (.type "NameError")=false)
  {rest:List Value} {Q:Fin→Shared→Prop} (X:K.In h) (hi:findIn K (.ref C) "__init__" =some (some (.ref fI))) (hf:typeIn K (.ref fI)=some (.type "function"))
  (hC:h.get? C=some (excClassObj nm q C N bs bm hdct sn sub ab col dd k0 k1 k2 k3 k5 newId))
  (hq:codeAny (model prog w) A (.call (.ref fI) ⟨.ref (h.objs.size+1)::rest,[]⟩) (fun r s' =>match r with| .ok (.ret v)=>v= .none∧Q (.done (.ret (.ref (h.objs.size+1)))) s' | .ok _=>False| .error e=>E e s')
   ⟨(h.push {cls:= .type "tuple",data:= .seq rest.toArray}).push {cls:= .ref C,data:= .fields #[.ref h.objs.size,.none,.none,.none,.bool false,.none]},g,d,t,os⟩) (hrest:rest.length≤sizeLine):
  wpAny (model prog w) A (Builtin.«type.__call__» ⟨.ref C::rest,[]⟩) Q E ⟨h,g,d,t,os⟩:=by
 repeat (first|with_reducible refine wpAny_loadPart_at hC ?_|with_reducible refine wpAny_madeBy_exc hC ?_|wp_step)
 refine codeAny_call_builtin_code (Code.quiet_builtin _ Fn.quiet) (sT Fn hcB hC ?_)
 refine DN Fn hcB hcA hcN hC ?_ hrest
 show wpAny _ _ _ _ _ _
 have hk:∀b o,h.get? b=some o→((h.push {cls:= .type "tuple",data:= .seq rest.toArray}).push {cls:= .ref C,data:= .fields #[.ref h.objs.size,.none,.none,.none,.bool false,.none]}).get? b=some o:=fun b o e=>Heap.get?_push_of_some _ (Heap.get?_push_of_some _ e)
 have hC₁:=hk _ _ hC
 have hget:((h.push {cls:= .type "tuple",data:= .seq rest.toArray}).push
   {cls:= .ref C,data:= .fields #[.ref h.objs.size,.none,.none,.none,.bool false,.none]}).get? (h.objs.size+1)=some
   {cls:= .ref C,data:= .fields #[.ref h.objs.size,.none,.none,.none,.bool false,.none]}:=by heap_get
 have hcC:(Value.ref C::bm).contains (.ref C)=true:=by simp
 unfold isInstance
 repeat (first|with_reducible refine wpAny_loadPart_at hget ?_|with_reducible refine kE hC₁ hcC ?_|wp_step)
 show wpAny _ _ (typeLookup (.ref C) _) _ _ _
 refine(looks_findIn (X.keeps hk) hi).at ?_
 refine wpAny_holding (wpAny_bind ((bind_fn (X.keeps hk) (.ref (h.objs.size+1)) hf).at ?_))
 refine wpAny_bind (wpAny_call ?_)
 refine codeAny_mono hq fun r s' z=>?_
 rcases r with e|(v|_|_|_)<;>first|exact z|exact z.elim|skip
 refine aG z fun z0 z1=>?_
 clear z
 revert z1
 intro z
 subst z0
 exact wpAny_pure (wpAny_pure z)
theorem Ct{K:Frag}{fI:Addr}(Fn:ExcBaseFacts Bn newId inN bmN)(hcB:(Value.ref C::bm).contains (.type Bn)=true)(hcA:(Value.ref C::bm).contains (.type "AttributeError")=false)(hcN:(Value.ref C::bm).contains (.type "NameError")=false)
  {rest:List Value} (X:K.In h) (hi:findIn K (.ref C) "__init__" =some (some (.ref fI))) (hf:typeIn K (.ref fI)=some (.type "function"))
  (hC:h.get? C=some (excClassObj nm q C N bs bm hdct sn sub ab col dd k0 k1 k2 k3 k5 newId))
  (hq:codeAny (model prog w) (A.under (.builtin "type.__call__" ⟨.ref C::rest,[]⟩)) (.call (.ref fI) ⟨.ref (h.objs.size+1)::rest,[]⟩) (fun r s' =>match r with| .ok (.ret v)=>v= .none∧R (.ok (.ret (.ref (h.objs.size+1)))) s' | .ok _=>False| .error e=>R (.error e) s')
   ⟨(h.push {cls:= .type "tuple",data:= .seq rest.toArray}).push {cls:= .ref C,data:= .fields #[.ref h.objs.size,.none,.none,.none,.bool false,.none]},g,d,t,os⟩) (hrest:rest.length≤sizeLine):
  codeAny (model prog w) A (.call (.ref C) ⟨rest,[]⟩) R ⟨h,g,d,t,os⟩:=by
 have f1:=tc_lookup
 have f2:=tc_bind (.ref C)
 have hT:(⟨h,g,d,t,os⟩:Shared).TypeIs (.ref C) "type" :=⟨_,hC,rfl⟩
 refine codeAny_of_tree ?_
 show wpAny _ _ (callAny (.ref C) _) _ _ _
 repeat (any_goals (first|assumption|with_reducible refine wpAny_loadPart_at hC ?_|wp_step))
 refine⟨rfl,?_⟩
 refine codeAny_call_builtin_at (Code.quiet_builtin _ (by decide+kernel)) entry_typeCall (wpAny_check_type_call_sub hC (sS Fn hcB hcA hcN X hi hf hC ?_ hrest))
 refine codeAny_mono hq fun r s' z=>?_
 rcases r with e|(v|_|_|_)<;>exact z
end
structure lI(g:Gx)(C fI:Addr):Prop where
 hC:∃nm q N bs bm hdct sn sub ab col dd k0 k1 k2 k3 k5 newId Bn inN bmN,g.T.get? C=some (excClassObj nm q C N bs bm hdct sn sub ab col dd k0 k1 k2 k3 k5 newId)∧ExcBaseFacts Bn newId inN bmN∧(Value.ref C::bm).contains (.type Bn)=true∧(Value.ref C::bm).contains (.type "AttributeError")=false∧(Value.ref C::bm).contains (.type "NameError")=false∧bm.contains (.type "BaseException")=true
 hi:findIn g.K (.ref C) "__init__" =some (some (.ref fI))
 hf:typeIn g.K (.ref fI)=some (.type "function")
theorem lI.e{g:Gx}{C fI:Addr}(k:lI g C fI){G:Prop}(h:∀nm q N bs bm hdct sn sub ab col dd k0 k1 k2 k3 k5 newId Bn inN bmN,g.T.get? C=some (excClassObj nm q C N bs bm hdct sn sub ab col dd k0 k1 k2 k3 k5 newId)→ExcBaseFacts Bn newId inN bmN→(Value.ref C::bm).contains (.type Bn)=true→(Value.ref C::bm).contains (.type "AttributeError")=false→(Value.ref C::bm).contains (.type "NameError")=false→bm.contains (.type "BaseException")=true→G):G:=by
 obtain⟨nm,q,N,bs,bm,hdct,sn,sub,ab,col,dd,k0,k1,k2,k3,k5,newId,Bn,inN,bmN,h1,h2,h3,h4,h5,h6⟩:=k.hC
 exact h _ _ _ _ _ _ _ _ _ _ _ _ _ _ _ _ _ _ _ _ h1 h2 h3 h4 h5 h6
noncomputable def gX(C:Addr)(o:Obj):Prop:=o.cls= .ref C∧∃vs,o.data= .fields vs∧vs[1]? =some .none∧6=vs.size
theorem xO{g:Gx}{C fI:Addr}{xs:List V}{own:List (Addr×OV)}{X:XO}{Q:V→List (Addr×OV)→Prop}{n:Nat}(k:lI g C fI)(hz:xs.length≤sizeLine)
  (h:∀e o,gX C o→o.dict=none→e∉own.map (·.1)→aS g n (.val (.ref fI)) (.val (.ref e)::xs) ((e,.raw o)::own) X (fun v own' =>v= .none∧Q (.val (.ref e)) own')):aS g (n+1) (.val (.ref C)) xs own X Q:=by
 intro A outer B s fv vs R r hc hfv hv hR hX
 obtain rfl:=hfv.inv
 have X' :g.K.In s.heap:=g.hK.keeps fun a o e=>hc.frz a o (hc.TB a o e)
 refine k.e fun nm q N bs bm hdct sn sub ab col dd k0 k1 k2 k3 k5 newId Bn inN bmN hC Fn hcB hcA hcN _=>?_
 obtain⟨hh,gs,dr,tk,os⟩:=s
 refine Ct Fn hcB hcA hcN X' k.hi k.hf (hc.frz _ _ (hc.TB _ _ hC)) ?_ (by rw[hv.length];exact hz)
 have hdl:hh.objs.size+1∉own.map (·.1):=fun q=>by
  refine aH (List.mem_map.mp q) fun p hp e=>cI ((hc.owns p hp).get) fun o eo=>?_
  have:=Heap.lt_size eo
  rw[e] at this
  exact absurd this (Nat.not_lt.mpr (Nat.le_succ _))
 have hsz:((hh.push {cls:= .type "tuple",data:= .seq vs.toArray}).push {cls:= .ref C,data:= .fields #[.ref hh.objs.size,.none,.none,.none,.bool false,.none]}).objs.size=hh.objs.size+2:=by rw[Heap.size_push,Heap.size_push]
 have ei:((hh.push {cls:= .type "tuple",data:= .seq vs.toArray}).push {cls:= .ref C,data:= .fields #[.ref hh.objs.size,.none,.none,.none,.bool false,.none]}).get? (hh.objs.size+1)=some {cls:= .ref C,data:= .fields #[.ref hh.objs.size,.none,.none,.none,.bool false,.none]}:=by
  have:=Heap.get?_push_size (h:=hh.push {cls:= .type "tuple",data:= .seq vs.toArray}) (o:={cls:= .ref C,data:= .fields #[.ref hh.objs.size,.none,.none,.none,.bool false,.none]}) rfl
  rwa [Heap.size_push] at this
 have old:∀a o,hh.get? a=some o→((hh.push {cls:= .type "tuple",data:= .seq vs.toArray}).push {cls:= .ref C,data:= .fields #[.ref hh.objs.size,.none,.none,.none,.bool false,.none]}).get? a=some o:=fun a o e=>Heap.get?_push_of_some _ (Heap.get?_push_of_some _ e)
 generalize ((hh.push {cls:= .type "tuple",data:= .seq vs.toArray}).push {cls:= .ref C,data:= .fields #[.ref hh.objs.size,.none,.none,.none,.bool false,.none]})=h₁ at hsz ei old ⊢
 have hc₁:yA g outer ((hh.objs.size+1,.raw {cls:= .ref C,data:= .fields #[.ref hh.objs.size,.none,.none,.none,.bool false,.none]})::own) B ⟨h₁,gs,dr,tk,os⟩:=by
  refine⟨hc.TB,fun a o e=>old a o (hc.frz a o e),fun p hp=>?_,List.nodup_cons.mpr ⟨hdl,hc.nod⟩,fun p hp=>?_,fun e he=>?_⟩
  ·rcases List.mem_cons.mp hp with rfl|hp
   ·exact ei
   ·exact(hc.owns p hp).at fun o e=>old _ o e
  ·rcases List.mem_cons.mp hp with rfl|hp
   ·cases q:B (hh.objs.size+1) with
    |none=>rfl
    |some o=>exact absurd (Heap.lt_size (hc.frz _ o q)) (Nat.not_lt.mpr (Nat.le_succ _))
   ·exact hc.onB p hp
  ·refine aG (hc.outer e he) fun a1 z0=>E2x5.e z0 fun L o a2 a3 a4 a5 a6=>?_
   clear z0
   refine⟨a1,L,o,a2,a3,old _ _ a4,a5,fun q=>?_⟩
   rcases List.mem_cons.mp q with q|q
   ·exact absurd (Heap.lt_size a4) (by rw[q];exact Nat.not_lt.mpr (Nat.le_succ _))
   ·exact a6 q
 have back:∀own' B' s',mJ g outer ((hh.objs.size+1,.raw {cls:= .ref C,data:= .fields #[.ref hh.objs.size,.none,.none,.none,.bool false,.none]})::own) own' B ⟨h₁,gs,dr,tk,os⟩ B' s'→mJ g outer own own' B ⟨hh,gs,dr,tk,os⟩ B' s' :=fun own' B' s' ha=>by
  refine pJ.e ha.rest fun h' tk' z0=>?_
  subst z0
  refine⟨⟨h',tk',rfl⟩,Nat.le_trans (by rw[hsz];exact Nat.le_add_right _ 2) ha.size,fun a o e hn=>?_,ha.Bold,fun a o e hl=>?_,ha.frz,ha.owns,ha.nod,fun p hp=>?_⟩
  ·refine ha.stay a o (old a o e) fun q=>?_
   rcases List.mem_cons.mp q with q|q
   ·exact absurd (Heap.lt_size e) (by rw[q];exact Nat.not_lt.mpr (Nat.le_succ _))
   ·exact hn q
  ·exact ha.Bnew a o e (by show a<h₁.objs.size;rw[hsz];exact Nat.lt_of_lt_of_le hl (Nat.le_add_right _ 2))
  ·refine aG (ha.onB p hp) fun b1 b2=>?_
   refine⟨b1,?_⟩
   rcases b2 with b2|b2
   ·rcases List.mem_cons.mp b2 with b2|b2
    ·exact .inr (by rw[b2];exact Nat.le_succ _)
    ·exact .inl b2
   ·exact .inr (Nat.le_trans (by rw[hsz];exact Nat.le_add_right _ 2) b2)
 refine h (hh.objs.size+1) _ ⟨rfl,_,rfl,rfl,rfl⟩ rfl hdl _ outer B _ (.ref fI) (.ref (hh.objs.size+1)::vs) _ r.create hc₁ .val (.cons .val hv) ?_ ?_
 ·intro v x own' B' s' z0
  refine aG z0 fun z1 hq=>?_
  clear z0
  subst z1
  intro hrep ha
  obtain rfl:=hrep.inv
  exact⟨rfl,hR _ _ own' B' s' hq .val (back own' B' s' ha)⟩
 ·intro ea cls own' B' s' hx ha hF
  refine hX ea cls own' B' s' hx (back own' B' s' ha) ?_
  have hs:hh.objs.size≤h₁.objs.size:=by rw[hsz];exact Nat.le_add_right _ 2
  refine aG hF fun z0 z1=>?_
  clear hF
  refine aG z0 fun f1 f2=>?_
  clear z0
  refine lJ.e z1 fun oe vs' T oT ts g1 g2 g3 g4 g5 z4 g8 g9 g10=>?_
  clear z1
  refine aG z4 fun g6 g7=>?_
  clear z4
  exact⟨⟨Nat.le_trans hs f1,f2⟩,oe,vs',T,oT,ts,g1,g2,g3,g4,g5,⟨Nat.le_trans hs g6,g7⟩,g8,g9,g10⟩
end
section
open PySem.SeqAt
section
variable {M:Model}{A:Around}{E:Value→Shared→Prop}{env:Env}
variable {nm q:Str}{C N:Addr}{bs bm:List Value}{hdct:Bool}{sn:List Str}{sub:List Value}{ab:Bool}{col:Option Bool}{dd:Option Addr}{k0 k1 k2 k3 k5:Option Value}{newId:String}
theorem yT{s:Shared}{x:Sem Value}{Q:Flow→Shared→Prop}(hbase:bm.contains (.type "BaseException")=true)(hh:A.handled=none)
  (h:wpAny M A x (fun v s₁=>y7 (fun e od vs sl=>v= .ref e) (fun e od vs sl=>s₁.heap.get? C=some (excClassObj nm q C N bs bm hdct sn sub ab col dd k0 k1 k2 k3 k5 newId)) (fun e od vs sl=>s₁.heap.get? e=some ⟨.ref C,od,.fields vs,sl⟩) (fun e od vs sl=>vs[1]? =some .none) (fun e od vs sl=>E (.ref e) s₁)) E s):
  wpAny M A (raiseStmt env (some x) none) Q E s:=by
 have hcB:(Value.ref C::bm).contains (.type "BaseException")=true:=by rw[List.contains_cons,hbase,Bool.or_true]
 unfold raiseStmt
 refine wpAny_bind (wpAny_mono h (fun v s₁ h₁=>?_) fun _ _ x=>x)
 refine y7.e h₁ fun e od vs sl z0 hC he hv1 hE=>?_
 clear h₁
 subst z0
 obtain⟨hp,g,d,tk,os⟩:=s₁
 repeat (first|with_reducible refine wpAny_loadPart_at he ?_|with_reducible refine wpAny_loadPart_at hC ?_|with_reducible refine kE hC hcB ?_|wp_step)
 rw[hv1]
 refine wpAny_pure ?_
 rw[if_neg (by decide)]
 exact wpAny_pure (wpAny_raiseNew_none hh hE)
end
section
variable {c:Cx}{σ:St}{X:Value→St→Prop}{B:Fz}{s:Shared}
theorem Dv{e:Expr}{p:Pos}{C fI:Addr}{Q:Fl→St→Prop}(k:lI c.g C fI)(h:WE c e σ X fun v σ₁=>y9 (fun ea o rest=>v= .val (.ref ea)) (fun ea o rest=>qH c ea) (fun ea o rest=>yE ea (.raw o) σ₁.own rest) (fun ea o rest=>gX C o) (fun ea o rest=>X (.ref C) ⟨σ₁.env,rest⟩)):W1 c (.Raise (some e) none p) σ X Q:=by
 intro B s Φ Ψ hc hΦ hΨ
 refine k.e fun nm q N bs bm hdct sn sub ab col dd k0 k1 k2 k3 k5 newId Bn inN bmN hC Fn hcB hcA hcN hbe=>?_
 rw[arm_exec_Raise]
 refine wpAny_bind (wpAny_standAt ?_)
 refine yT (C:=C) (nm:=nm) (q:=q) (N:=N) (bs:=bs) (bm:=bm) (hdct:=hdct) (sn:=sn) (sub:=sub) (ab:=ab) (col:=col) (dd:=dd) (k0:=k0) (k1:=k1) (k2:=k2) (k3:=k3) (k5:=k5) (newId:=newId) hbe hc.base.ok.handled ?_
 refine wpAny_bind (h B s _ Ψ hc (fun v x σ₁ B₁ s₁ hq hr hle hc₁=>wpAny_bind (wpAny_standAt (wpAny_pure ?_))) hΨ)
 refine y9.e hq fun ea o rest z0 hn hd z1 hX=>?_
 clear hq
 subst z0
 refine aG z1 fun hcl z3=>?_
 clear z1
 refine dT z3 fun vs hda hv1 _=>?_
 clear z3
 obtain rfl:=hr.inv
 obtain⟨hc₂,gE,(he:s₁.heap.get? ea=some o)⟩:=hc₁.drop hn hd
 obtain⟨cls,od,data,sl⟩:=o
 simp only at hcl hda
 subst hcl hda
 exact⟨ea,od,vs,sl,rfl,hc₁.topKeeps _ _ hC,he,hv1,hΨ _ _ ⟨_,B₁,ea,.ref C,hX,rfl,hc₂,gE,_,vs,he,rfl,rfl,.inl hv1⟩⟩
noncomputable def Cx.base(c:Cx)(b:Fz):Cx:={c with B0:=b}
theorem Conc.toBase(hc:Conc c σ B s):Conc (c.base B) σ B s:=by
 refine⟨⟨⟨hc.base.ok.kind,hc.base.ok.handled,hc.base.ok.globals,hc.base.ok.builtins,hc.base.ok.depth,hc.base.ok.units,hc.base.ok.frames,hc.base.ok.fkind,hc.base.ok.fsame,hc.base.ok.flive,fun e he=>?_⟩,hc.base.rest,hc.base.size,hc.base.stay,hc.base.TB,hc.base.frz,Fz.Le.refl B,fun a o e _=>e,hc.base.pins,hc.base.pfree,hc.base.nod,hc.base.mt⟩,hc.names,hc.vars,hc.own⟩
 refine aG (hc.base.ok.outer e he) fun a1 z0=>E2x5.e z0 fun L o a2 a3 a4 a5 a6=>?_
 clear z0
 refine⟨a1,L,o,a2,?_,a4,a5,a6⟩
 show B L=none
 cases q:B L with
 |none=>rfl
 |some o' =>rw[hc.base.Bnew L o' q (Heap.lt_size a4)] at a3;cases a3
theorem Conc.ofBase{σ' :St}{B' :Fz}{s' :Shared}(hc:Conc c σ B s)(h:Conc (c.base B) σ' B' s'):B.Le B'∧Conc c σ' B' s' :=
 ⟨h.base.Bold,⟨⟨hc.base.ok,h.base.rest,h.base.size,h.base.stay,h.base.TB,h.base.frz,hc.base.Bold.trans h.base.Bold,fun a o e hl=>hc.base.Bnew a o (h.base.Bnew a o e hl) hl,h.base.pins,h.base.pfree,h.base.nod,h.base.mt⟩,h.names,h.vars,h.own⟩⟩
theorem FP{body:List Stmt}{x:Str}{np rp tp hp pos:Pos}{kd:Nat}{C fI:Addr}{X' :Value→St→Prop}{Q:Fl→St→Prop}(k:lI c.g C fI)(hx:Gl c.g x (.val (.ref C)))(i:Nat)(hg:qE i σ.env=some x)
  (h:∀b,WX (c.base b) body σ X' Q) (hX:∀cls σ',X' cls σ'→cls= .ref C∧qE i σ'.env=some x∧Q (.ret (.bool true)) σ'):
  W1 c (.Try body [.ExceptHandler (some (.Name x np)) none [.Return (some (.Constant (.bool true) kd tp)) rp] hp] [] [] pos) σ X Q:=by
 intro B s Φ Ψ hc hΦ hΨ
 refine wpAny_Try_except (h B B s _ _ hc.toBase (fun fl x' σ' B' s' hq hr hle hcb=>?_) fun e s' hx' =>?_)
 ·have hc' :=(hc.ofBase hcb).2
  cases fl<;>first|exact hΦ _ _ σ' B' s' hq hr hle hc' |skip
  exact wpAny_pure (hΦ _ _ σ' B' s' hq hr hle hc')
 ·refine jO.e hx' fun σ' B' ea cls hxx z0 hcb hF' =>?_
  clear hx'
  subst z0
  refine aG (hc.ofBase hcb) fun hle hc' =>?_
  have hF:E0 c σ' B' ea cls s'.heap:=hF'
  refine eT (hX _ _ hxx) fun z0 hg' hq=>?_
  subst z0
  refine dT hc'.base.ok.flive fun L hL _ _=>fB hc' hc'.base.ok.fsame hL hF fun s₁ hc₁ hN=>dB hc₁ hN none fun s₂ hc₂ hN₂=>?_
  obtain⟨gea,oe,vs,T,oT,ts,e1,e2,e3,_⟩:=id hN₂
  refine k.e fun nm q N bs bm hdct sn sub ab col dd k0 k1 k2 k3 k5 newId Bn inN bmN hC Fn hcB hcA hcN hbe=>?_
  refine wpAny_handleBy_cons (codeAny_handlers_test (hc₂.globE hg' hx fun v r=>?_)) (by intro q;cases q)
  obtain rfl:=r.inv
  obtain⟨h₂,g₂,d₂,t₂,os₂⟩:=s₂
  refine wpAny_excMatches_sub_self (hc₂.topKeeps _ _ hC) e1 e2 hbe ?_
  refine codeAny_handlers_suite (dB hc₂ hN₂ none fun s₃ hc₃ hN₃=>?_)
  exact wpAny_execs_cons (wpAny_Return_some (wpAny_Constant_bool (hΦ _ _ σ' B' s₃ hq (.ret .bool) hle hc₃)))
end
end
section
open PySem.SeqAt PySem.Builtin PySem.Builtin.ObjectAttr PySem.Calls
theorem yP(self:Value):refuseLoop self "__setattr__" [.type "Exception",.type "BaseException",.type "object"]=pure ():=by kernel_rfl
noncomputable def v8:List Value→Bool
 | .ref _::r=>v8 r
 |l=>l==[.type "Exception",.type "BaseException",.type "object"]
theorem sP(self:Value){l:List Value}:v8 l=true→refuseLoop self "__setattr__" l=pure ()∧l.contains (.type "object")=true∧l.isEmpty=false:=by
 induction l with
 |nil=>exact fun e=>nomatch e
 |cons v r ih=>
  intro e
  cases v with
  |ref c=>
   refine eT (ih e) fun h1 h2 _=>?_
   exact⟨by rw[refuseLoop_ref];exact h1,by rw[List.contains_cons,h2,Bool.or_true],rfl⟩
  |type n=>
   have q:=beq_iff_eq.mp (show((Value.type n::r)==[.type "Exception",.type "BaseException",.type "object"])=true from e)
   rw[q];exact⟨yP self,by decide,rfl⟩
  |_=>exact nomatch beq_iff_eq.mp (show((_::r)==[Value.type "Exception",.type "BaseException",.type "object"])=true from e)
section
variable {prog:Program}{w:World}{A:Around}{E:Value→Shared→Prop}{R:Result→Shared→Prop}{s:Shared}{K:Frag}{x C:Addr}{name:Str}{v:Value}{cd:ClassData}
structure pH(K:Frag)(C:Addr)(name:Str):Prop where
 cls:∃cd,clsIn K C=some cd∧v8 cd.mro=true∧cd.hasDict=true
 hs:findIn K (.ref C) "__setattr__" =some (some (.builtin "object.__setattr__"))
 hn:findIn K (.ref C) name=some none
theorem DA{tk:Tok}{od:Option Addr}{dt:Data}{sl:Array (Option Value)}(X:K.In s.heap)(ok:pH K C name)(hx:s.heap.get? x=some ⟨.ref C,od,dt,sl⟩)
  (h:wpAny (model prog w) A.in1 (do match(←instanceDict x true) with|some d=>storeInDict d (.str name tk) name v|none=>noDictFor (.ref x) (.ref C) name false)
   (fun fin s' =>match fin with| .done f=>R (.ok f) s' | .again c' =>c'.quiet=true∧codeAny (model prog w) A c' R s') (fun e s' =>R (.error e) s') s):
  codeAny (model prog w) A (.call (.builtin "object.__setattr__") ⟨[.ref x,.str name tk,v],[]⟩) R s:=by
 have SF:=PySem.F.store_object
 refine dT ok.cls fun cd hc ho hdc=>eT (sP (.ref x) ho) fun hr hob hne=>?_
 have Ty:Looks (model prog w) s.heap (typeOf (.ref x)) (.ref C):=(Looks.ld hx).andThen .now
 have sub:Looks (model prog w) s.heap (isInstance (.ref x) (.type "object")) true:=Ty.andThen (looks_mroIn X (by unfold mroIn;rw[hc,Option.bind_some,if_neg (by rw[hne];decide),hob]))
 refine codeAny_call_builtin SF.slot.plain SF.entry (@check_slot (model prog w) _ _ s "object.__setattr__" "object" "__setattr__" (.ref x) [.str name tk,v] [] _ SF.kind SF.split sub (SF.args (.ref x) (.str name tk) v) ?_)
 have hm:Looks (model prog w) s.heap (mroOf (.ref C)) cd.mro:=(looks_clsIn X hc).andThen .now
 rw[osa_eq,refuse_eq]
 refine wpAny_bind (wpAny_bind (Ty.here (wpAny_bind (hm.here ?_))))
 rw[hr]
 refine wpAny_pure (wpAny_bind (Ty.here (wpAny_bind ((looks_findIn X ok.hn).here (wpAny_bind (wpAny_pure ?_))))))
 show wpAny _ _ (storeInOwnDict (.ref x) (.ref C) (.str name tk) name v false) _ _ s
 unfold storeInOwnDict
 exact wpAny_bind (wpAny_pure h)
theorem Aa{Q:Unit→Shared→Prop}{od:Option Addr}{dt:Data}{sl:Array (Option Value)}(X:K.In s.heap)(ok:pH K C name)(hx:s.heap.get? x=some ⟨.ref C,od,dt,sl⟩)
  (h:∀t,wpAny (model prog w) A.in1 (do match(←instanceDict x true) with|some d=>storeInDict d (.str name t) name v|none=>noDictFor (.ref x) (.ref C) name false)
   (fun fin s' =>match fin with| .done f=>(match f with| .ret _=>Q () s' |_=>False)| .again c' =>False) (fun e s' =>E e s') {s with toks:=s.toks+1}):
  wpAny (model prog w) A (setAttr (.ref x) name v) Q E s:=by
 have Ty:Looks (model prog w) s.heap (typeOf (.ref x)) (.ref C):=(Looks.ld hx).andThen .now
 refine wpAny_bind (wpAny_mkText (wpAny_bind (wpAny_bind (wpAny_bind (Ty _ _ _ _ (fun _ _ e=>e) (looks_findIn X ok.hs _ _ _ _ (fun _ _ e=>e) (wpAny_holding ?_)))))))
 rw[PySem.F.store_object.slot.bind]
 refine wpAny_bind (wpAny_pure (wpAny_bind (wpAny_call (codeAny_mono (DA (R:=fun r s' =>match r with| .ok (.ret _)=>Q () s' | .ok _=>False| .error e=>E e s') (s:={s with toks:=s.toks+1}) X ok hx (wpAny_mono (h s.toks) (fun fin s' z=>?_) fun _ _ z=>z)) fun r s' z=>?_))))
 ·cases fin with
  |done f=>cases f<;>exact z
  |again c' =>exact z.elim
 ·rcases r with e|(v|_|_|_)<;>first|exact z|exact wpAny_pure (wpAny_pure z)
theorem wG{tk:Tok}{dx:Addr}{es:List DictEntry}{n:Nat}{Q:PySem.Fin→Shared→Prop}(D:s.heap.get? dx=some (dictOf es n))(hl:(getL name es).isSome=true)(hz:es.length≤1000)
  (h:∀t,((s.heap.update dx (Obj.putName name (PyData.keyHash w.params name) (.str name t) v)).get? dx=some (dictOf (putL name (PyData.keyHash w.params name) (.str name t) v es) (putN name es n)))→
   Q (.done (.ret .none)) {s with heap:=s.heap.update dx (Obj.putName name (PyData.keyHash w.params name) (.str name t) v),toks:=s.toks+1}):
  wpAny (model prog w) A (storeInDict dx (.str name tk) name v) Q E s:=by
 have D' :(s.heap.update dx (Obj.putName name (PyData.keyHash w.params name) (.str name s.toks) v)).get? dx=some (dictOf (putL name (PyData.keyHash w.params name) (.str name s.toks) v es) (putN name es n)):=by
  have:=Heap.get?_update_self (Obj.putName name (PyData.keyHash w.params name) (.str name s.toks) v) D (by rw[putName_dict];rfl)
  rw[putName_dict] at this;exact this
 unfold storeInDict
 refine wpAny_bind (wpAny_pure (wpAny_bind ?_))
 unfold nsSet
 refine wpAny_bind (wpAny_bind (wpAny_askSetting (wpAny_pure (wpAny_bind (wpAny_mkText (wpAny_bind (wpAny_loadPart D ?_)))))))
 dsimp only
 have c:(!es.toArray.any (·.key.isStr name)&&es.toArray.any (·.refKey))=false:=by
  rw[←Array.any_toList,←Array.any_toList]
  unfold getL at hl
  split at hl
  ·rename_i en he
   rw[List.any_eq_true.mpr ⟨en,List.mem_of_find?_eq_some he,List.find?_some he⟩];rfl
  ·split at hl
   ·cases hl
   ·rename_i z;rw[Bool.not_eq_true] at z;simp only[z,Bool.and_false]
 rw[aRefKeyMayBeTheName_at,c]
 refine wpAny_updatePart D ?_
 have hlen:(putL name (PyData.keyHash w.params name) (.str name s.toks) v es).length≤1001:=by
  have:∀(es:List DictEntry),(putL name (PyData.keyHash w.params name) (.str name s.toks) v es).length≤es.length+1:=by
   intro es
   induction es with
   |nil=>simp[putL]
   |cons e r ih=>unfold putL;split<;>simp<;>assumption
  have:=this es
  exact aI [_,_] [] (.Le .x (.n 1000)) 1 (.Le .w (.a .x (.n 1))) 1 (.Le .w (.n 1001)) 0 qq hz this
 refine wpAny_bind (wpAny_lookBehind D' (by exact pastItsLine_dict (by rw[List.size_toArray,sizeLine_eq];exact aB [_] [] (.Le .w (.n 1001)) 1 (.Le .w (.a (.n 16777216) (.n 1))) 0 qq hlen)) ?_)
 exact wpAny_pure (h _ D')
theorem Cm{C d:Addr}{dt:Data}{sl:Array (Option Value)}{Q:Option Addr→Shared→Prop}(X:K.In s.heap)(hc:clsIn K C=some cd)(hd:cd.hasDict=true)(hx:s.heap.get? x=some ⟨.ref C,some d,dt,sl⟩)(h:Q (some d) s):
  wpAny (model prog w) A (instanceDict x true) Q E s:=by
 unfold instanceDict
 refine wpAny_bind (wpAny_loadPart hx (wpAny_bind ((looks_clsIn X hc).here ?_)))
 rw[hd]
 exact wpAny_pure h
theorem Cn{C:Addr}{vs:Array Value}{sl:Array (Option Value)}{Q:Option Addr→Shared→Prop}(X:K.In s.heap)(hc:clsIn K C=some cd)(hd:cd.hasDict=true)(hx:s.heap.get? x=some ⟨.ref C,none,.fields vs,sl⟩)
  (h:Q (some s.heap.objs.size) {s with heap:=(s.heap.push emptyDict).update x fun o=>{o with dict:=some s.heap.objs.size}}):
  wpAny (model prog w) A (instanceDict x true) Q E s:=by
 unfold instanceDict
 refine wpAny_bind (wpAny_loadPart hx (wpAny_bind ((looks_clsIn X hc).here ?_)))
 rw[hd]
 refine wpAny_bind (wpAny_alloc ?_)
 have hx' :=Heap.get?_push_of_some emptyDict hx
 refine wpAny_bind (wpAny_update hx' ?_)
 exact wpAny_pure h
end
end
section
open PySem.SeqAt PySem.Builtin PySem.Builtin.ObjectAttr PySem.Calls
noncomputable def withDict(o:Obj)(d:Addr):Obj:={o with dict:=some d}
theorem gX.withDict{C:Addr}{o:Obj}{d:Addr}(h:gX C o):gX C (withDict o d):=h
section
variable {c:Cx}{σ:St}{X:Value→St→Prop}{B:Fz}{s:Shared}
theorem wJ{o value:Expr}{name:Str}{p' p:Pos}{Q:Fl→St→Prop}
  (h:WE c value σ X fun x σ₁=>WE c o σ₁ X fun ov σ₂=>gY (fun ea C ob=>ov= .val (.ref ea)) (fun ea C ob=>pH c.g.K C name) (fun ea C ob=>gX C ob) (fun ea C ob=>((ob.dict=none∧∀d,∃own',cM ea (.raw ob) (.raw (withDict ob d)) σ₂.own own'∧Q .next ⟨σ₂.env,(d,.dct [(name,x)])::own'⟩)∨y8 (fun d l own' =>ob.dict=some d) (fun d l own' =>eV ea (.raw ob) σ₂.own) (fun d l own' =>name∉l.map (·.1)) (fun d l own' =>l.length≤999) (fun d l own' =>cM d (.dct l) (.dct (l++[(name,x)])) σ₂.own own') (fun d l own' =>Q .next ⟨σ₂.env,own'⟩))))
  (hs:autoParam (swapsWith value (some (.Attribute o name p')) p.line c.env=pure false) c8):W1 c (.Assign [.Attribute o name p'] value p) σ X Q:=by
 intro B s Φ Ψ hc hΦ hΨ
 rw[plainObj_exec_Assign_Attribute o name p' value p hs]
 refine wpAny_bind (wpAny_standAt (wpAny_bind (h B s _ Ψ hc (fun v x σ₁ B₁ s₁ hq hr hle hc₁=>?_) hΨ)))
 rw[assign_Attribute]
 refine wpAny_bind (wpAny_bind (wpAny_holding (hq B₁ s₁ _ Ψ hc₁ (fun ow ov σ₂ B₂ s₂ hq₂ hr₂ hle₂ hc₂=>?_) hΨ)))
 refine gY.e hq₂ fun ea C ob z0 ok z1 hq=>?_
 clear hq₂
 subst z0
 refine aG z1 fun hcl z3=>?_
 clear z1
 refine dT z3 fun vs hda hv1 hv6=>?_
 clear z3
 obtain rfl:=hr₂.inv
 obtain⟨cls,od,data,sl⟩:=ob
 simp only at hcl hda hq
 subst hcl hda
 refine dT (id ok.cls) fun cd hcd _ hhd=>?_
 refine wpAny_bind (wpAny_standAt (wpAny_bind (wpAny_holding ?_)))
 rcases hq with⟨rfl,hq⟩|⟨d,l,own',rfl,hoa,hn,hz,hp,hq⟩
 ·refine aH (hq s₂.heap.objs.size) fun own' hp hq=>?_
  have hx:s₂.heap.get? ea=some ⟨.ref C,none,.fields vs,sl⟩:=hc₂.own _ hp.mem
  have hlt:=Heap.lt_size hx
  refine Aa hc₂.inK ok hx fun t=>?_
  refine wpAny_bind (Cn (s:={s₂ with toks:=s₂.toks+1}) hc₂.inK hcd hhd hx ?_)
  have hx' :=Heap.get?_push_of_some emptyDict hx
  have ed:((s₂.heap.push emptyDict).update ea fun o=>{o with dict:=some s₂.heap.objs.size}).get? s₂.heap.objs.size=some (dictOf [] 0):=(Heap.get?_update_other _ _ (Nat.ne_of_lt hlt)).trans (Heap.get?_push_size _ rfl)
  refine wG (es:=[]) (n:=0) ed rfl (by decide) fun t' e' =>?_
  have c1:=hc₂.push emptyDict (s₂.toks+1)
  have c2:=c1.putOwn (tk:=s₂.toks+1) hp (Heap.SameBut.update (s₂.heap.push emptyDict) ea fun o=>{o with dict:=some s₂.heap.objs.size}) (Heap.get?_update_self _ hx' rfl)
  have gd:aP c ⟨σ₂.env,own'⟩ B₂ s₂.heap.objs.size:=by
   have g:=hc₂.freshGhost
   refine⟨g.1,fun hm=>g.2.1 ?_,g.2.2.1,g.2.2.2⟩
   have:bF c ⟨σ₂.env,own'⟩=bF c σ₂:=by simp[bF,hp.keys]
   rwa [this] at hm
  have c3:=c2.ownGhost gd (ov:= .dct []) ⟨hc₂.freshSys,_,[],ed,⟨#[],_,⟨rfl,rfl,rfl⟩,rfl,(fun j hj=>by simp at hj),.nil,List.nodup_nil⟩,.nil⟩
  have c4:=c3.putOwn (tk:=s₂.toks+1+1) (own' :=(s₂.heap.objs.size,.dct [(name,x)])::own') .here (Heap.SameBut.update _ s₂.heap.objs.size (Obj.putName name (PyData.keyHash c.g.w.params name) (.str name t') v))
   ⟨hc₂.freshSys,_,[(name,v)],e',⟨_,_,⟨rfl,rfl,rfl⟩,rfl,(fun e he=>by
    have:e=⟨PyData.keyHash c.g.w.params name,.str name t',v⟩:=by simpa [putL] using he
    rw[this];exact⟨name,by simp[PySem.strKind,Value.isStrOf],rfl⟩),.cons (by simp[PySem.strKind,Value.isStrOf]) rfl .nil,by simp⟩,.cons (hr.mono hle₂) .nil⟩
  exact wpAny_release (wpAny_pure (hΦ _ _ _ B₂ _ hq .next (hle.trans hle₂) c4))
 ·have hx:s₂.heap.get? ea=some ⟨.ref C,some d,.fields vs,sl⟩:=hc₂.own _ hoa.mem
  refine aG (hc₂.own _ hp.mem) fun hy z0=>cJ.e z0 fun ob kvs h2 z2 h4=>?_
  clear z0
  refine E2x5.e z2 fun es ep he hd hk hpr hnd=>?_
  clear z2
  obtain⟨cls,dd,data,sl'⟩:=ob
  refine eT he fun e1 e2 e3=>?_
  clear he
  simp only at e1 e2 e3 hd
  subst e1 e2 e3 hd
  have hn' :name∉kvs.map (·.1):=by rw[h4.keys];exact hn
  have hlen:es.toList.length=l.length:=by rw[hpr.length,←h4.length]
  refine Aa hc₂.inK ok hx fun t=>?_
  refine wpAny_bind (Cm (s:={s₂ with toks:=s₂.toks+1}) hc₂.inK hcd hhd hx ?_)
  refine wG (es:=es.toList) (n:=ep) h2 (by rw[qS hpr];rfl) (by exact aI [_,_] [] (.Le .x (.n 999)) 1 (.Eq .w .x) 1 (.Le .w (.n 1000)) 0 qq hz hlen) fun t' e' =>?_
  refine aG (Pairs.put (prog:=c.g.prog) (w:=c.g.w) (name:=name) (v:=v) (hsh:=PyData.keyHash c.g.w.params name) (t:=t') hpr hn') fun q1 q2=>?_
  rw[q1] at e'
  refine wpAny_release (wpAny_pure (hΦ _ _ _ B₂ _ hq .next (hle.trans hle₂) (hc₂.putOwn (tk:=s₂.toks+1+1) hp (Heap.SameBut.update ..) ?_)))
  refine⟨hy,_,kvs++[(name,v)],e',⟨_,_,⟨rfl,rfl,rfl⟩,rfl,?_,by simpa using q2,?_⟩,h4.append (.cons (hr.mono hle₂) .nil)⟩
  ·intro e' he'
   have:e'∈es.toList++[⟨PyData.keyHash c.g.w.params name,.str name t',v⟩]:=by simpa using he'
   rcases List.mem_append.mp this with h3|h3
   ·exact hk e' (by simpa using h3)
   ·rw[List.mem_singleton.mp h3]
    exact⟨name,by simp[PySem.strKind,Value.isStrOf],rfl⟩
  ·rw[List.map_append,List.nodup_append]
   exact⟨hnd,by simp,fun a ha b hb e=>hn' (by simp at hb;rw[←hb,←e];exact ha)⟩
end
end
section
open PySem.SeqAt PySem.Builtin PySem.Builtin.ObjectAttr PySem.Calls
section
variable {prog:Program}{w:World}{A:Around}{E:Value→Shared→Prop}{s:Shared}{K:Frag}{name:Str}{v:Value}
theorem yY{T:String}{pl:Sem Bool}{Q:Value×List Value→Shared→Prop}(X:K.In s.heap)(ht:typeOf (.type T)=pure (.type "type"))(hs:Manifest.isStub T=false)
  (e:findCls K (.type T) (.type "type") name=some (.val v)) (hh:handedIn v=true) (h:Q (v,[]) {s with toks:=s.toks+1}):wpAny (model prog w) A (getMethod (.type T) name pl) Q E s:=by
 have hstub:opaqueClassAbove (.type T)=pure none:=by unfold opaqueClassAbove;dsimp only;rw[hs];rfl
 have L0:Looks (model prog w) s.heap (typeOf (.type T)) (.type "type"):=Looks.of_pure ht
 have hg:findIn K (.type "type") "__getattribute__" =some (some (.builtin "type.__getattribute__")):=type_tga
 unfold getMethod specialOf
 refine wpAny_bind (wpAny_bind (L0.here ((looks_findIn X hg).here ?_)))
 dsimp only
 rw[if_pos canon_tga]
 refine wpAny_bind (wpAny_mono (Q:=fun v=>Q (v,[])) (E:=E) ?_ (fun _ _ z=>wpAny_pure z) fun _ _ z=>z)
 have LO:Looks (model prog w) s.heap (opaqueClassAbove (.type T)) none:=Looks.of_pure hstub
 refine cls_open X LO L0 hg (looks_hook X (r:=none) (by rfl)) (by show subIn K _ _=_;rfl) e
  (wpAny_pure (by show wpAny _ _ (handedOut v) _ _ _;rw[handedOut_of hh];exact wpAny_pure h))
end
section
variable {prog:Program}{w:World}{A:Around}{E:Value→Shared→Prop}{h:Heap}{g:Array GenState}{d:Drawn}{t:Nat}{os:OsState}
variable {nm q:Str}{C N:Addr}{bs bm:List Value}{hdct:Bool}{sn:List Str}{sub:List Value}{ab:Bool}{col:Option Bool}{dd:Option Addr}{k0 k1 k2 k3 k5:Option Value}{B newId nid initId:String}{bmB:List Value}
theorem s5{M:Model}(F:ExcBaseFacts B nid initId bmB)(hcB:(Value.ref C::bm).contains (.type B)=true){e:Addr}{oe:Obj}{rest:List Value}{Q:Unit→Shared→Prop}
  (hC:h.get? C=some (excClassObj nm q C N bs bm hdct sn sub ab col dd k0 k1 k2 k3 k5 newId)) (he:h.get? e=some oe) (hcls:oe.cls= .ref C) (hq:Q () ⟨h,g,d,t,os⟩):
  wpAny M A (checkBuiltinCall initId ⟨.ref e::rest,[]⟩) Q E ⟨h,g,d,t,os⟩:=by
 obtain⟨cl,od,dt,sl⟩:=oe
 cases(show cl=_ from hcls)
 have hshort:=F.noStar
 simp only[checkBuiltinCall,F.initKind,F.initSplit,F.initRow]
 repeat (first|with_reducible refine wpAny_loadPart_at he ?_|with_reducible refine wpAny_loadPart_at hC ?_|with_reducible refine kE hC hcB ?_|wp_step)
 refine wpAny_onRaise ?_
 rw[show∀(a b:String) (n:Nat),Bind.check ⟨.positional, "*",B,.self,[⟨"args",.varPos,false⟩]⟩ a b n (List.map (fun x=>x.fst) ({pos:=Value.ref e::rest}:Args).kw)=pure () from
  fun a b n=>check_star_args _ _ _ _ _ _]
 exact wpAny_pure hq
theorem Cs(F:ExcBaseFacts B nid initId bmB)(hcB:(Value.ref C::bm).contains (.type B)=true){e:Addr}{od:Option Addr}{vs:Array Value}{sl:Array (Option Value)}{rest:List Value}{Q:Value→Shared→Prop}
  (hC:h.get? C=some (excClassObj nm q C N bs bm hdct sn sub ab col dd k0 k1 k2 k3 k5 newId)) (he:h.get? e=some ⟨.ref C,od,.fields vs,sl⟩) (hsz:0<vs.size) (hrest:rest.length≤sizeLine)
  (hq:Q .none ⟨(h.push {cls:= .type "tuple",data:= .seq rest.toArray}).update e (Obj.mapFields (·.setIfInBounds 0 (.ref h.objs.size))),g,d,t,os⟩):
  wpAny (model prog w) A (call (.builtin initId) (.ref e::rest)) Q E ⟨h,g,d,t,os⟩:=by
 refine wpAny_call (codeAny_call_builtin F.init.plain F.initEntry (s5 F hcB hC he rfl ?_))
 have hep:=Heap.get?_push_of_some {cls:= .type "tuple",data:= .seq rest.toArray} he
 unfold Builtin.«BaseException.__init__»
 refine wpAny_bind (wpAny_newObj_type ?_ (by show rest.toArray.size≤sizeLine;rw[List.size_toArray];exact hrest))
 obtain⟨old,hold⟩:∃old,vs[0]? =some old:=⟨vs[0],Array.getElem?_eq_getElem hsz⟩
 unfold BaseException.bexcPut
 refine wpAny_bind (wpAny_bind (wpAny_field hep rfl hold (wpAny_bind (wpAny_setField hep rfl hsz ?_))))
 cases old with
 |ref a=>exact wpAny_letGo (wpAny_pure hq)
 |_=>exact wpAny_pure (wpAny_pure hq)
end
section
variable {c:Cx}{σ:St}{X:Value→St→Prop}{B:Fz}{s:Shared}
noncomputable def HE(c:Cx)(name:Str)(ov:V)(f:Value)(σ:St):Prop:=∀B s v pl (Φ:Value×List Value→Shared→Prop) (Ψ:Value→Shared→Prop),c5 c.g B ov v→Conc c σ B s→(∀tk,Φ (f,[]) {s with toks:=tk})→
 wpAny (model c.g.prog c.g.w) c.A (getMethod v name pl) Φ Ψ s
theorem DO{o:Expr}{name:Str}{apos p:Pos}{args:List Expr}{Q:V→St→Prop}
  (h:WE c o σ X fun ov σ₁=>∃f,HE c name ov f σ₁∧vX c.g (.val f)∧hO c p args σ₁ X fun xs σ₂=>WK c (.val f) xs σ₂ X Q)
  (hpl:autoParam (args.all fR=true) c8)
  (hbase:autoParam (attributeBase o name c.env (eval o c.env)=eval o c.env) c8)
  (hline:autoParam ((apos.endLine==p.line)=true) c8)
  (hfew:autoParam (methodCallForm (args.length+([]:List Keyword).length) (backTo p (starEach args c.env)) (backToKw p (keywordEach [] c.env))=true) c8):WE c (.Call (.Attribute o name apos) args [] p) σ X Q:=by
 intro B s Φ Ψ hc hΦ hΨ
 show wpAny _ _ (do
  let ov ←attributeBase o name c.env (eval o c.env)
  standAt apos.atName
  methodCall o name apos p c.env ov (args.length+([]:List Keyword).length) (backTo p (starEach args c.env)) (backToKw p (keywordEach [] c.env))) Φ Ψ s
 rw[hbase]
 refine wpAny_bind (h B s _ _ hc (fun v ov σ₁ B₁ s₁ hq hr hle hc₁=>wpAny_bind (wpAny_standAt ?_)) hΨ)
 refine cI hq fun f z0=>?_
 clear hq
 refine eT z0 fun hm hcal hq=>?_
 clear z0
 have hpos:methodCallPos true o c.env apos p=pure p:=by unfold methodCallPos;simp[hline]
 unfold methodCall
 rw[hfew]
 refine wpAny_bind (wpAny_holding ?_)
 show wpAny _ _ (getMethod v name _) _ _ s₁
 refine hm B₁ s₁ v _ _ _ hr hc₁ fun tk=>?_
 show wpAny _ _ (methodCallPos true o c.env apos p>>= fun callPos=>callWith callPos f [] (backTo p (starEach args c.env)) []) _ _ _
 rw[hpos]
 refine wpAny_bind (wpAny_pure ?_)
 refine callWith_of (P:=fun hp=>∃B',B₁.Le B'∧(∀a o,B' a=some o→hp.get? a=some o)∧∀a o,c.g.T.get? a=some o→B' a=some o) (by simpa using fH hpl) (fun hp ⟨B',h1,h2,h3⟩=>hcal B' f h3 .val _ hp h2) ?_
 refine kI (fH hpl) hq (hc₁.toks tk) (fun vs xs σ₂ B₂ s₂ hq₂ hr₂ hle₂ hc₂=>⟨⟨B₂,hle₂,hc₂.base.frz,hc₂.base.TB⟩,?_⟩) hΨ
 exact hq₂ B₂ s₂ f vs _ _ .val hr₂ hc₂ (fun v x σ₃ B₃ s₃ hq₃ hr₃ hle₃ hc₃=>hΦ v x σ₃ B₃ s₃ hq₃ hr₃ ((hle.trans hle₂).trans hle₃) hc₃) hΨ
theorem EK{T:String}{name:Str}{f:Value}(ht:typeOf (.type T)=pure (.type "type"))(hs:Manifest.isStub T=false)(e:findCls c.g.K (.type T) (.type "type") name=some (.val f))(hh:handedIn f=true):HE c name (.val (.type T)) f σ:=by
 intro B s v pl Φ Ψ hr hc hΦ
 obtain rfl:=hr.inv
 exact yY hc.inK ht hs e hh (hΦ _)
theorem Bb{ea:Addr}{x:V}{C fI:Addr}{own' :List (Addr×OV)}{o:Obj}{Q:V→St→Prop}(k:lI c.g C fI)(hB:∀nm q N bs bm hdct sn sub ab col dd k0 k1 k2 k3 k5 newId,c.g.T.get? C=some (excClassObj nm q C N bs bm hdct sn sub ab col dd k0 k1 k2 k3 k5 newId)→(Value.ref C::bm).contains (.type "Exception")=true)
  (ho:gX C o) (hp:∀o',gX C o'→o'.dict=o.dict→∃own',cM ea (.raw o) (.raw o') σ.own own'∧Q .none ⟨σ.env,own'⟩):WK c (.val (.builtin "Exception.__init__")) [.val (.ref ea),x] σ X Q:=k2 fun B s v w Φ Ψ hr ht hc hΦ hΨ=>by
 obtain rfl:=hr.inv
 refine k.e fun nm q N bs bm hdct sn sub ab col dd k0 k1 k2 k3 k5 newId Bn inN bmN hC Fn hcB hcA hcN hbe=>?_
 obtain⟨cls,od,data,sl⟩:=o
 refine aG (id ho) fun hcl z0=>dT z0 fun vs hda hv1 hv6=>?_
 clear z0
 simp only at hcl hda
 subst hcl hda
 have hz:0<vs.size:=by exact aB [_] [] (.Eq (.n 6) .w) 1 (.Lt (.n 0) .w) 5 qq hv6
 refine aH (hp _ ho rfl) fun own₀ hp₀ _=>?_
 have he:s.heap.get? ea=some ⟨.ref C,od,.fields vs,sl⟩:=hc.own _ hp₀.mem
 have eo:gX C (Obj.mapFields (·.setIfInBounds 0 (.ref s.heap.objs.size)) ⟨.ref C,od,.fields vs,sl⟩):=by
  refine⟨rfl,vs.setIfInBounds 0 (.ref s.heap.objs.size),rfl,?_,by simpa using hv6⟩
  rw[Array.getElem?_setIfInBounds_ne (by decide)];exact hv1
 refine aH (hp _ eo rfl) fun own' hp' hq=>?_
 obtain⟨hh,gs,dr,tk,os⟩:=s
 refine Cs (PySem.F.excBase_Exception) (hB _ _ _ _ _ _ _ _ _ _ _ _ _ _ _ _ _ hC) (hc.topKeeps _ _ hC) he hz (by show 1≤sizeLine;decide) ?_
 have hep:=Heap.get?_push_of_some {cls:= .type "tuple",data:= .seq [w].toArray} he
 have c1:=hc.push {cls:= .type "tuple",data:= .seq [w].toArray} tk
 exact hΦ _ _ _ B _ hq .none (Fz.Le.refl B) (c1.putOwn (tk:=tk) hp' (Heap.SameBut.update ..) (Heap.get?_update_self _ hep rfl))
end
end
section
open PySem.SeqAt PySem.Builtin PySem.Calls
inductive oE(x:Str)(Y:V):List (Str×Slot)→List (Str×Slot)→Prop
 |here {r}:oE x Y ((x,.cel (some Y))::r) ((x,.fre Y)::r)
 |skip {p r r'}:oE x Y r r'→oE x Y (p::r) (p::r')
theorem oE.map{x:Str}{Y:V}{e e' :List (Str×Slot)}(h:oE x Y e e'):e'.map (·.1)=e.map (·.1):=by
 induction h<;>simp_all
theorem oE.mem{x:Str}{Y:V}{e e' :List (Str×Slot)}(h:oE x Y e e'):(x,Slot.cel (some Y))∈e:=by
 induction h with
 |here=>exact List.mem_cons_self ..
 |skip _ ih=>exact List.mem_cons_of_mem _ ih
theorem oE.of{x:Str}{Y:V}{e e' :List (Str×Slot)}(h:oE x Y e e'):∀p∈e',p=(x,.fre Y)∨p∈e:=by
 induction h with
 |here=>
  intro p hp
  rcases List.mem_cons.mp hp with rfl|hp
  ·exact .inl rfl
  ·exact .inr (List.mem_cons_of_mem _ hp)
 |skip _ ih=>
  intro p hp
  rcases List.mem_cons.mp hp with rfl|hp
  ·exact .inr (List.mem_cons_self ..)
  ·exact(ih p hp).imp id (List.mem_cons_of_mem _)
theorem oE.cels{x:Str}{Y:V}{env:Env}{a:Addr}(ha:env.cells.lookup x=some a){e e' :List (Str×Slot)}(h:oE x Y e e'):(cels env e).Perm (a::cels env e'):=by
 induction h with
 | @here r=>
  show(Mine.cels env ((x,.cel (some Y))::r)).Perm (a::Mine.cels env r)
  rw[fL (p:=(x,.cel (some Y))) ha]
 | @skip p r r' _ ih=>
  cases hc:xN env p with
  |none=>rw[jZ hc,jZ hc];exact ih
  |some b=>rw[fL hc,fL hc];exact(ih.cons _).trans (.swap ..)
section
variable {c:Cx}{σ:St}{X:Value→St→Prop}{B:Fz}{s:Shared}
theorem Conc.freezeCel{x:Str}{Y:V}{env' :List (Str×Slot)}(hc:Conc c σ B s)(hn:kP c)(hx:oE x Y σ.env env'):∃B',B.Le B'∧Conc c ⟨env',σ.own⟩ B' s:=by
 refine aH hc.vars fun m hns hv=>aG (hv _ hx.mem) fun hk z0=>cJ.e z0 fun a vo hl z2 hr=>?_
 clear z0
 refine aH z2 fun o eo do' =>?_
 clear z2
 refine aH (hr Y rfl) fun v z2 rv=>?_
 subst z2
 have hNew:=hn x a hl
 have hm:a∈bF c σ:=bF.cel_mem (eE hl hx.mem)
 refine m7 (hc.base.mt a hm) fun b1 b2 b3 b4=>?_
 have hpm:(bF c σ).Perm (a::bF c ⟨env',σ.own⟩):=by
  unfold bF
  refine(((hx.cels hl).append_right _).cons _).trans ?_
  simp only[List.cons_append]
  exact List.Perm.swap _ _ _
 have nod:=hpm.nodup_iff.mp hc.base.nod
 have base1:mR c (bF c ⟨env',σ.own⟩) B s:={hc.base with nod:=(List.nodup_cons.mp nod).2,mt:=fun b hb=>hc.base.mt b (hpm.mem_iff.mpr (List.mem_cons_of_mem _ hb))}
 have hBl:=Fz.Le.put o b1
 refine⟨_,hBl,⟨base1.freeze eo b1 hNew (List.nodup_cons.mp nod).1 b3,?_,⟨m,hns,fun p hp=>?_⟩,fun p hp=>(hc.own p hp).mono hBl⟩⟩
 ·refine⟨by rw[hx.map];exact hc.names.1,fun p hp=>?_⟩
  have:p.1∈σ.env.map (·.1):=by rw[←hx.map];exact List.mem_map_of_mem hp
  refine aH (List.mem_map.mp this) fun q hq e=>?_
  rw[←e];exact hc.names.2 q hq
 ·rcases hx.of p hp with rfl|hp
  ·exact⟨.inl hk,a,o,v,hl,.inr (Fz.put_self _ _ _),do',rv.mono hBl⟩
  ·exact(hv p hp).step hBl fun _ _ _ _ q=>q
theorem WT.frzCel{α β:Type}{R:Fz→β→α→Prop}{t:Sem α}{Q:β→St→Prop}{x:Str}{Y:V}{env' :List (Str×Slot)}(hn:kP c)(hx:oE x Y σ.env env')(h:WT c R t ⟨env',σ.own⟩ X Q):WT c R t σ X Q:=by
 intro B s Φ Ψ hc hΦ hΨ
 exact aH (hc.freezeCel hn hx) fun B' hle hc' =>h B' s Φ Ψ hc' (fun v x σ' B'' s' q r hle' hc'' =>hΦ v x σ' B'' s' q r (hle.trans hle') hc'') hΨ
inductive yD(outer:List (Str×Slot)):List (Str×NameKind)→List (Str×V)→Prop
 |nil:yD outer [] []
 |cap {x Y l r}:(x,Slot.fre Y)∈outer→yD outer l r→yD outer ((x,.free)::l) ((x,Y)::r)
 |other {x k l r}:k≠ .free→yD outer l r→yD outer ((x,k)::l) r
structure Ej(g:Gx)(code P:Addr):Prop where
 hd:CodeHd g.T code P
 bm:g.T.BuiltinsAt g.mg P
 ne:mainGlobals≠P
theorem Conc.putOwnExt{a:Addr}{ov ov' :OV}{own' :List (Addr×OV)}{h' :Heap}{tk:Nat}(hc:Conc c σ B s)(hp:cM a ov ov' σ.own own')(hk:∀b o,b≠a→s.heap.get? b=some o→h'.get? b=some o)(hsz:s.heap.objs.size≤h'.objs.size)(hi:f7 c.g B h' a ov'):
  Conc c ⟨σ.env,own'⟩ B {s with heap:=h',toks:=tk}:=by
 have hM:bF c ⟨σ.env,own'⟩=bF c σ:=by simp[bF,hp.keys]
 have ha:a∈σ.own.map (·.1):=List.mem_map_of_mem (f:=(·.1)) hp.mem
 refine j4 (bF.split hc.base.nod) fun n1 n2 n3 n4 n5=>?_
 refine⟨by rw[hM];exact hc.base.step (fun b o e hb=>hk b o (fun q=>hb (q▸bF.own_mem ha)) e) hsz,hc.names,?_,fun p hp' =>?_⟩
 ·refine aH hc.vars fun m n v=>cI (id n) fun o z0=>cI z0 fun es z2=>?_
  clear z0
  refine aH z2 fun ep ho r=>?_
  clear z2
  refine⟨m,⟨o,es,ep,hk _ o (fun q=>n2 (q▸ha)) ho,r⟩,fun p hp=>(v p hp).step (Fz.Le.refl B) fun b vo ⟨o',e'⟩ el ic=>?_⟩
  refine aH ic fun oc e1 e2=>?_
  clear ic
  have hac:b∈cels c.env σ.env:=eE el (by rw[←e'];exact hp)
  exact⟨oc,hk b oc (fun q=>n5 b hac (q▸ha)) e1,e2⟩
 ·rcases hp.of n4 p hp' with rfl|⟨h1,h2⟩
  ·exact hi
  ·exact(hc.own p h1).at fun o e=>hk p.1 o h2 e
theorem s6{params:Arguments}{body:Expr}{scope:Scope}{pos:Pos}{code P:Addr}{ps:Array Value}{caps:List (Str×V)}{Q:V→St→Prop}(k:Ej c.g code P)(hcode:c.env.code= .ref code)
  (hp:∀c',∃own',cM P (.raw (tabObj ps)) (.raw (tabObj (ps++ #[rawInt pos.line,rawInt pos.col,.ref c']))) σ.own own'∧Q (.lam params body scope caps) ⟨σ.env,own'⟩) (ht:TriplesOk ps.toList) (hnf:codeAmong pos ps.toList=none) (hcap:yD σ.env scope.names caps)
  (hpins:c.pins=[]) (hd:autoParam (defaultsOf params c.env=([],[])) c8):WE c (.Lambda params body scope pos) σ X Q:=by
 intro B s Φ Ψ hc hΦ hΨ
 rw[arm_eval_Lambda,hd]
 refine wpAny_bind (wpAny_pure (wpAny_bind (wpAny_holding (wpAny_pure ?_))))
 refine aH hc.vars fun m hns hv=>?_
 have hfree:∀{l caps},yD σ.env l caps→∀p∈l,p.2= .free→∃a,c.env.cells.lookup p.1=some a:=by
  intro l caps h
  induction h with
  |nil=>intro p hp;cases hp
  |cap hm _ ih=>
   intro p hp hf
   rcases List.mem_cons.mp hp with rfl|hp
   ·obtain⟨_,a,_,_,e,_⟩:=hv _ hm;exact⟨a,e⟩
   ·exact ih p hp hf
  |other hne _ ih=>
   intro p hp hf
   rcases List.mem_cons.mp hp with rfl|hp
   ·exact absurd hf hne
   ·exact ih p hp hf
 refine dT (jL (hfree hcap)) fun cl hcl hcl1 hcl2=>aH (hp 0) fun own₀ hp₀ _=>?_
 have hP:s.heap.get? P=some (tabObj ps):=hc.own _ hp₀.mem
 refine kla_makeFunction hcl hc.base.ok.globals (c.g.hg.keeps hc.topKeeps) hcode (k.hd.keeps hc.topKeeps) hP ht hnf k.ne (k.bm.keeps hc.topKeeps) fun c' ctv h' tk hx h1 h2 hrec htab=>aH (hp c') fun own' hp' hq=>?_
 have hc₁:Conc c ⟨σ.env,own'⟩ B {s with heap:=h',toks:=tk}:=hc.putOwnExt hp' (fun b o hb e=>hx b o hb e) (Nat.le_trans h1 (Nat.le_of_lt h2)) htab
 refine cI hrec fun cc z0=>?_
 clear hrec
 refine cI z0 fun oc z2=>?_
 clear z0
 refine cI z2 fun cvs z4=>?_
 clear z2
 refine Bi z4 fun tq ecc eo ed eq=>?_
 clear z4
 cases ecc
 have hm:c'∉bF c ⟨σ.env,own'⟩:=fun q=>by
  have:bF c ⟨σ.env,own'⟩=bF c σ:=by simp[bF,hp'.keys]
  rw[this] at q
  exact absurd (hc.base.mt c' q).2.2.2 (Nat.not_lt.mpr h1)
 have hBn:B c' =none:=by
  cases q:B c' with
  |none=>rfl
  |some o=>exact absurd (Heap.lt_size (hc.base.frz _ o q)) (Nat.not_lt.mpr h1)
 have hc₂:=hc₁.freeze eo hBn (Nat.le_trans hc.base.size h1) hm (by rw[hpins];intro p hp;cases hp)
 have hB₂:=Fz.Le.put oc hBn
 refine aG (hc₂.pushF (kla_obj "<lambda>" (c.env.qual++ "<lambda>") params body scope cl ((c.g.mg "__name__").getD .none) c' ctv) tk) fun hc₃ hB₃=>?_
 refine hΦ _ _ _ _ _ hq ?_ (hB₂.trans hB₃) hc₃
 refine .lam (Fz.put_self _ _ _) rfl ⟨rfl,rfl,rfl,rfl,rfl,rfl,rfl,c',oc,cvs,tq,rfl,hB₃ _ _ (Fz.put_self _ _ _),ed,eq⟩ ?_
 have caps_ok:∀{l caps},(∀p∈l,p∈scope.names)→yD σ.env l caps→RepC c.g B caps cl:=by
  intro l caps hl h
  induction h with
  |nil=>exact .nil
  | @cap x Y l r hm' _ ih=>
   refine aG (hv _ hm') fun kk z0=>gY.e z0 fun a o v e1 e2 e3 rr=>?_
   clear z0
   have hsome:=hcl2 (x,.free) (hl _ (List.mem_cons_self ..)) rfl
   refine cI (Option.isSome_iff_exists.mp hsome) fun a' ha' =>?_
   have:=hcl1 _ _ ha'
   rw[e1] at this;cases this
   refine .cons ha' ?_ e3 rr (ih fun p hp=>hl p (List.mem_cons_of_mem _ hp))
   rcases e2 with e2|e2
   ·rw[hpins] at e2;cases e2
   ·exact e2
  |other _ _ ih=>exact ih fun p hp=>hl p (List.mem_cons_of_mem _ hp)
 exact(caps_ok (fun p hp=>hp) hcap).mono (hB₂.trans hB₃)
end
end
section
open PySem.SeqAt PySem.Builtin PySem.Calls
inductive oA(bs caps:List (Str×V)):List (Str×NameKind)→List (Str×Slot)→Prop
 |nil:oA bs caps [] []
 |loc {x l e}:oA bs caps l e→oA bs caps ((x,.local)::l) ((x,.loc (bs.lookup x))::e)
 |fre {x Y l e}:caps.lookup x=some Y→(x==("__classdict__" :Str))=false→oA bs caps l e→oA bs caps ((x,.free)::l) ((x,.fre Y)::e)
 |glob {x l e}:oA bs caps l e→oA bs caps ((x,.globalImplicit)::l) ((x,.glob)::e)
theorem oA.keys{bs caps:List (Str×V)}{l e}(h:oA bs caps l e):e.map (·.1)=l.map (·.1):=by
 induction h<;>simp_all
theorem oA.cels{bs caps:List (Str×V)}{env:Env}{l e}(h:oA bs caps l e):cels env e=[]:=by
 induction h<;>first|rfl|assumption
theorem oA.mem{bs caps:List (Str×V)}{l e}(h:oA bs caps l e):∀p∈e,(p.2= .loc (bs.lookup p.1)∧(p.1,NameKind.local)∈l)∨(∃Y,p.2= .fre Y∧caps.lookup p.1=some Y∧(p.1==("__classdict__" :Str))=false∧(p.1,NameKind.free)∈l)∨(p.2= .glob∧(p.1,NameKind.globalImplicit)∈l):=by
 induction h with
 |nil=>intro p hp;cases hp
 |loc _ ih=>
  intro p hp
  rcases List.mem_cons.mp hp with rfl|hp
  ·exact .inl ⟨rfl,List.mem_cons_self ..⟩
  ·exact(ih p hp).imp (And.imp id (List.mem_cons_of_mem _)) (Or.imp (fun⟨Y,a,b,c,d⟩=>⟨Y,a,b,c,List.mem_cons_of_mem _ d⟩) (And.imp id (List.mem_cons_of_mem _)))
 |fre h1 h2 _ ih=>
  intro p hp
  rcases List.mem_cons.mp hp with rfl|hp
  ·exact .inr (.inl ⟨_,rfl,h1,h2,List.mem_cons_self ..⟩)
  ·exact(ih p hp).imp (And.imp id (List.mem_cons_of_mem _)) (Or.imp (fun⟨Y,a,b,c,d⟩=>⟨Y,a,b,c,List.mem_cons_of_mem _ d⟩) (And.imp id (List.mem_cons_of_mem _)))
 |glob _ ih=>
  intro p hp
  rcases List.mem_cons.mp hp with rfl|hp
  ·exact .inr (.inr ⟨rfl,List.mem_cons_self ..⟩)
  ·exact(ih p hp).imp (And.imp id (List.mem_cons_of_mem _)) (Or.imp (fun⟨Y,a,b,c,d⟩=>⟨Y,a,b,c,List.mem_cons_of_mem _ d⟩) (And.imp id (List.mem_cons_of_mem _)))
theorem RepC.find{g:Gx}{B:Fz}{x:Str}{Y:V}{caps:List (Str×V)}{cl:List (Str×Addr)}(r:RepC g B caps cl):caps.lookup x=some Y→gY (fun a o v=>cl.lookup x=some a) (fun a o v=>B a=some o) (fun a o v=>o.data= .cell (some v)) (fun a o v=>c5 g B Y v):=by
 refine r.rec (motive_1:=fun _ _ _=>True) (motive_2:=fun _ _ _=>True) (motive_3:=fun _ _ _=>True) (motive_4:=fun caps cl _=>caps.lookup x=some Y→gY (fun a o v=>cl.lookup x=some a) (fun a o v=>B a=some o) (fun a o v=>o.data= .cell (some v)) (fun a o v=>c5 g B Y v)) trivial trivial trivial trivial trivial (fun _ _ _ _ _=>trivial) (fun _ _ _ _ _ _=>trivial) (fun _ _ _ _ _=>trivial) (fun _ _ _ _ _=>trivial) (fun _=>trivial) (fun _ _ _ _ _=>trivial) (fun _=>trivial) trivial trivial (fun _ _ _ _=>trivial) trivial (fun _ _ _ _=>trivial) (fun h=>nomatch h) ?_
 intro k X a o v l es h1 h2 h3 h4 _ _ ih h
 by_cases q:x=k
 ·subst q
  simp only[List.lookup_cons_self,Option.some.injEq] at h
  subst h
  exact⟨_,_,_,h1,h2,h3,h4⟩
 ·rw[List.lookup_cons,show(x==k)=false from by simpa using q] at h
  exact ih h
theorem xP{g:Gx}{params:Arguments}{body:Expr}{scope:Scope}{caps:List (Str×V)}{ps:List Str}{xs:List V}{own:List (Addr×OV)}{X:XO}{Q:V→List (Addr×OV)→Prop}{n:Nat}{env₀:List (Str×Slot)}
  (hbind:∀fd:FuncData,fd.params=params→fd.defaults= .none→fd.kwdefaults= .none→∀vs:List Value,vs.length=xs.length→bindArgs fd ⟨vs,[]⟩=pure (ps.zip vs)) (hps:ps.length≤1) (hlen:ps.length=xs.length)
  (hkind:∀p∈ps,scope.names.lookup p=some .local) (hnc:∀p∈scope.names,p.2≠ .cell) (hnd:(scope.names.map (·.1)).Nodup) (hdb:∀p∈scope.names,(p.1==("__debug__" :Str))=false)
  (hco:scope.isCoroutine=false) (hge:scope.isGenerator=false) (hki:scope.kind= .function) (he:oA (ps.zip xs) caps scope.names env₀)
  (h:∀c:Cx,c.g=g→c.lvl=n→WE c body ⟨env₀,own⟩ (fun cls σ=>X cls σ.own) (fun v σ=>Q v σ.own)):aS g (n+1) (.lam params body scope caps) xs own X Q:=by
 intro A outer B s fv vs R r hc hfv hv hR hX
 obtain⟨a,o,fd,hB,hd,L,rc⟩:=hfv.inv
 have hk:∀a o,g.T.get? a=some o→s.heap.get? a=some o:=fun a o e=>hc.frz a o (hc.TB a o e)
 have hroom:A.depth<recursionLimit:=by have:=r.depth;have e:recursionLimit=1000:=rfl;exact aI [_,_,_] [] (.Le (.a .w (.m 4 (.a .y (.n 1)))) (.n 900)) 1000 (.Eq .x (.n 1000)) (.negSucc 896) (.Lt .w .x) 999 qq this e
 refine jO.e L.code fun cc oc cvs tq ecc eo ed eq=>?_
 refine kla_callFunE hroom (hc.frz _ _ hB) hd (by rw[L.scope];exact hco) (by rw[L.scope];exact hge) L.body ⟨cc,oc,cvs,tq,ecc,hc.frz _ _ eo,ed,eq⟩ ?_
 rw[hbind fd L.params L.dflt L.kdflt vs hv.length]
 refine wpAny_pure ?_
 rw[L.scope,L.glob,L.bui]
 refine wpAny_newFunctionEnv hnc (fun x hx=>?_) (fun h' hns hsb=>?_) hki
 ·obtain⟨p,v⟩:=x
  exact hkind p (List.of_mem_zip hx).1
 have old:∀b o,s.heap.get? b=some o→h'.get? b=some o:=fun b o e=>hsb.extBut b o (Nat.ne_of_lt (Heap.lt_size e)) (Heap.get?_push_of_some _ e)
 have hsz:h'.objs.size=s.heap.objs.size+1:=by rw[hsb.1,Heap.size_push]
 refine⟨g.hl.keeps fun a o e=>old a o (hk a o e),kla_codeExpr ?_⟩
 generalize hE:newEnv scope s.heap.objs.size mainGlobals fd.closure (fd.qualname++ ".<locals>.") (some a) fd.code none builtinsNs=E₀
 have hEs:E₀.scope=scope∧E₀.locals=s.heap.objs.size∧E₀.globals=mainGlobals∧E₀.cells=fd.closure∧E₀.frame=some s.heap.objs.size∧E₀.builtins=builtinsNs:=by subst hE;exact⟨rfl,rfl,rfl,rfl,rfl,rfl⟩
 refine He hEs fun q1 q2 q3 q4 q5 q6=>?_
 clear hEs
 have ownLt:∀a∈own.map (·.1),a<s.heap.objs.size:=fun a h=>by
  refine aH (List.mem_map.mp h) fun p hp z2=>?_
  subst z2
  exact cI ((hc.owns p hp).get) fun o e=>Heap.lt_size e
 have Bnone:∀a,s.heap.objs.size≤a→B a=none:=fun a h=>by
  cases q:B a with
  |none=>rfl
  |some o=>exact absurd (Heap.lt_size (hc.frz a o q)) (Nat.not_lt.mpr h)
 have hM:bF (⟨g,A.deeper E₀,E₀,E₀,outer,s,own.map (·.1),B,[],n⟩:Cx) ⟨env₀,own⟩=s.heap.objs.size::own.map (·.1):=by
  show E₀.locals::(cels E₀ env₀++_)=_
  rw[he.cels,q2];rfl
 have hL:s.heap.objs.size<h'.objs.size:=by rw[hsz];exact Nat.lt_succ_self _
 have hC:Conc (⟨g,A.deeper E₀,E₀,E₀,outer,s,own.map (·.1),B,[],n⟩:Cx) ⟨env₀,own⟩ B {s with heap:=h',toks:=s.toks+(ps.zip vs).length}:=by
  refine⟨⟨⟨by rw[q1];exact hki,r.handled,q3,q6,?_,?_,Around.frames_deeper r.frames,by rw[q1,hki];decide,rfl,⟨_,q5,Nat.le_refl _,.inl q2.symm⟩,?_⟩,⟨_,_,rfl⟩,Nat.le_of_lt hL,pB.of_keeps fun a o e _=>old a o e,hc.TB,fun a o e=>old a o (hc.frz a o e),Fz.Le.refl B,fun _ _ e _=>e,(fun p hp=>nomatch hp),(fun p hp=>nomatch hp),?_,?_⟩,
   ⟨by rw[he.keys];exact hnd,fun p hp=>?_⟩,⟨_,by rw[q2];exact hns,fun p hp=>?_⟩,fun p hp=>(hc.owns p hp).at fun o e=>old _ o e⟩
  ·have:=r.depth;simp only[Around.deeper];exact aB [_,_] [] (.Le (.a .w (.m 4 (.a .x (.n 1)))) (.n 900)) 1 (.Le (.a (.a .w (.n 1)) (.m 4 .x)) (.n 900)) 0 qq this
  ·have:=r.units;simp only[Around.deeper];exact aB [_,_] [] (.Le (.a .w (.m 30 (.a .x (.n 1)))) (.n 9000)) 1 (.Le (.a (.a .w (.n 3)) (.m 30 .x)) (.n 9000)) 0 qq this
  ·intro e he
   refine aG (hc.outer e he) fun h1 z0=>E2x5.e z0 fun L o h2 h3 h4 h5 h6=>?_
   clear z0
   exact⟨h1,L,o,h2,h3,h4,h5,h6⟩
  ·rw[hM];exact List.nodup_cons.mpr ⟨fun q=>absurd (ownLt _ q) (Nat.lt_irrefl _),hc.nod⟩
  ·rw[hM]
   intro a ha
   rcases List.mem_cons.mp ha with rfl|ha
   ·exact⟨Bnone _ (Nat.le_refl _),.inr (Nat.le_refl _),(fun p hp=>nomatch hp),hL⟩
   ·refine aH (List.mem_map.mp ha) fun p hp z2=>?_
    subst z2
    exact⟨hc.onB p hp,.inl ha,(fun p hp=>nomatch hp),Nat.lt_trans (ownLt _ ha) hL⟩
  ·have:p.1∈scope.names.map (·.1):=by rw[←he.keys];exact List.mem_map_of_mem hp
   refine aH (List.mem_map.mp this) fun q hq e=>?_
   rw[←e];exact hdb q hq
  ·rcases he.mem p hp with⟨e,hm⟩|⟨Y,e,hy,hcd,hm⟩|⟨e,hm⟩
   ·rw[e]
    refine⟨by show E₀.kindOf p.1=_;unfold Env.kindOf;rw[q1];exact cY hnd hm,fun Z hZ=>?_⟩
    cases ps with
    |nil=>simp at hZ
    |cons p₀ ps' =>
     cases ps' with
     |cons _ _=>simp at hps
     |nil=>
      cases hv with
      |nil=>simp at hZ
      | @cons x v xs' vs' ra rr=>
       simp only[List.zip_cons_cons,List.zip_nil_left,List.lookup_cons,List.lookup_nil] at hZ ⊢
       split at hZ
       ·cases hZ
        rename_i qq
        refine⟨v,?_,ra⟩
        simp[List.lookup_cons,qq]
       ·cases hZ
   ·rw[e]
    refine gY.e (rc.find hy) fun a' o' v' f1 f2 f3 f4=>?_
    exact⟨.inr ⟨by show E₀.kindOf p.1=_;unfold Env.kindOf;rw[q1];exact cY hnd hm,hcd⟩,a',o',v',by show E₀.cells.lookup _=_;rw[q4];exact f1,.inr f2,f3,f4⟩
   ·rw[e]
    show E₀.kindOf p.1=_
    unfold Env.kindOf;rw[q1];exact cY hnd hm
 refine h _ rfl rfl B _ _ _ hC (fun v x σ' B' s' hq hrep hle hc' =>?_) ?_
 ·exact hR _ _ σ'.own B' s' hq hrep (Conc.leave (by rw[q5,q2]) (Nat.le_of_eq q2.symm) hc')
 ·intro e s' z0
  refine jO.e z0 fun σ' B' ea cls hx z1 hc' hF=>?_
  clear z0
  subst z1
  refine pR hc' rfl hF fun s'' hc'' hN=>aG hN fun ge z0=>?_
  clear hN
  refine lJ.e z0 fun oe vs₁ T oT ts h1 h2 h3 h4 h5 gT h6 h7 h8=>?_
  clear z0
  exact hX ea cls σ'.own B' s'' hx (Conc.leave (by rw[q5,q2]) (Nat.le_of_eq q2.symm) hc'') ⟨⟨ge.1,ge.2.2.1,fun q=>ge.2.1 (bF.own_mem q)⟩,oe,vs₁,T,oT,ts,h1,h2,h3,h4,h5,⟨gT.1,gT.2.2.1,fun q=>gT.2.1 (bF.own_mem q)⟩,h6,h7,h8⟩
theorem vX.lam{g:Gx}{params:Arguments}{body:Expr}{scope:Scope}{caps:List (Str×V)}:vX g (.lam params body scope caps):=fun B v _ h=>by
 cases h with
 |lam hB hd _ _=>exact .func hB hd
end
section
open PySem.SeqAt PySem.Builtin PySem.Calls
section
variable {c:Cx}{σ:St}{X:Value→St→Prop}{B:Fz}{s:Shared}
theorem FN{a:Expr}{r:List Expr}{env:Env}(h:fR a=true):starEach (a::r) env=(false,eval a env)::starEach r env:=by cases a<;>first|rfl|exact nomatch h
theorem CA{func lam:Expr}{args:List Expr}{name:Str}{kp p:Pos}{Q:V→St→Prop}
  (h:WE c func σ X fun f σ₁=>vX c.g f∧hO c p args σ₁ X fun xs σ₂=>WE c lam σ₂ X fun y σ₃=>
   ∀B s fv vs kv (Φ Ψ:Value→Shared→Prop),c5 c.g B f fv→Reps c.g B xs vs→c5 c.g B y kv→Conc c σ₃ B s→(vT c (c5 c.g) B Q Φ)→(jC c X Ψ)→
    wpAny (model c.g.prog c.g.w) c.A (call fv vs [(name,kv)]) Φ Ψ s)
  (hpl:autoParam (args.all fR=true) c8) (hne:autoParam (args.isEmpty=false) c8)
  (he:autoParam (eval (.Call func args [⟨some name,lam,kp⟩] p) c.env=(do let f ←eval func c.env;callWith p f [] (backTo p (starEach args c.env)) (backToKw p (keywordEach [⟨some name,lam,kp⟩] c.env)))) c8):WE c (.Call func args [⟨some name,lam,kp⟩] p) σ X Q:=by
 intro B s Φ Ψ hc hΦ hΨ
 rw[he]
 refine wpAny_bind (h B s _ _ hc (fun fv f σ₁ B₁ s₁ hq hr hle hc₁=>?_) hΨ)
 refine aG hq fun hcal z0=>?_
 clear hq
 revert z0
 intro hq
 refine callWith_of (P:=fun hp=>∃B',B₁.Le B'∧(∀a o,B' a=some o→hp.get? a=some o)∧∀a o,c.g.T.get? a=some o→B' a=some o) (by rw[fH hpl];rfl) (fun hp ⟨B',h1,h2,h3⟩=>hcal B' fv h3 (hr.mono h1) _ hp h2) ?_
 cases args with
 |nil=>cases hne
 |cons a r=>
  have he' :=FN (env:=c.env) (r:=r) (Bool.and_eq_true_iff.mp hpl).1
  refine evalArgs_kw2 rfl ?_ he'
  refine hq B₁ s₁ _ _ hc₁ (fun vs xs σ₂ B₂ s₂ hq₂ hr₂ hle₂ hc₂=>?_) hΨ
  refine wpAny_evalAll_cons (wpAny_bind (hq₂ B₂ s₂ _ _ hc₂ (fun kv y σ₃ B₃ s₃ hq₃ hr₃ hle₃ hc₃=>wpAny_bind (wpAny_standAt (wpAny_pure (wpAny_evalAll_nil ?_)))) hΨ))
  refine⟨⟨B₃,hle₂.trans hle₃,hc₃.base.frz,hc₃.base.TB⟩,?_⟩
  exact hq₃ B₃ s₃ fv vs kv _ _ (hr.mono (hle₂.trans hle₃)) (hr₂.mono hle₃) hr₃ hc₃ (fun v x σ₄ B₄ s₄ hq₄ hr₄ hle₄ hc₄=>hΦ v x σ₄ B₄ s₄ hq₄ hr₄ (((hle.trans hle₂).trans hle₃).trans hle₄) hc₄) hΨ
end
section
variable {prog:Program}{w:World}{A:Around}{E:Value→Shared→Prop}{s:Shared}
noncomputable def Ax(prog:Program)(w:World)(A:Around)(f:Value)(P:Heap→Prop)(v:Value)(k:Int):Prop:=∀(s:Shared) (E:Value→Shared→Prop) (Q:Value→Shared→Prop),P s.heap→
 (∀h' tk t,(∀b o,s.heap.get? b=some o→h'.get? b=some o)→Q (.int k t) {s with heap:=h',toks:=tk})→wpAny (model prog w) A (call f [v]) Q E s
theorem AG{l L fa:Addr}{vs:List Value}{kz:List Int}{mL:Str→Option Value}{news:List (Addr×Obj)}{P:Heap→Prop}{Q:Value→Shared→Prop}(F:Fr {} L s.heap mL)(N:News {} L s.heap news)(hl:s.heap.IsList l vs.toArray)(hlen:kz.length=vs.length)(h64:vs.length<64)
  (hP:∀h,News {} L h news→P h) (turn:∀(i:Nat) (v:Value) (k:Int),vs[i]? =some v→kz[i]? =some k→Ax prog w A.in1.in1 (.ref fa) P v k)
  (h:∀h' tk out c,Fr {} L h' mL→News {} L h' ((s.heap.objs.size+1,seqObj "list" out c)::news)→KskOut false kz vs out.toList→Q (.ref (s.heap.objs.size+1)) {s with heap:=h',toks:=tk}):
  wpAny (model prog w) A (call (.builtin "sorted") [.ref l] [(Str.ofString "key",.ref fa)]) Q E s:=by
 refine call_function_entry_kw kind_sorted plain_sorted entry_sorted (ksk_s1 _ _) ?_
 unfold Builtin.«sorted»
 refine wpAny_bind (m:=checkCount "sorted" 1 1 _) (wpAny_pure ?_)
 refine wpAny_bind (collect_list hl ?_ (by rw[sizeLine_eq];exact aB [_] [] (.Lt .w (.n 64)) 1 (.Le .w (.n 16777216)) 0 qq h64))
 refine wpAny_bind (wpAny_newList ?_ (by rw[sizeLine_eq];exact aB [_] [] (.Lt .w (.n 64)) 1 (.Le .w (.n 16777216)) 0 qq h64))
 have hsz:((s.heap.push (seqObj "list" #[] 0)).update s.heap.objs.size (Obj.mapSeq (·++vs.toArray))).objs.size=s.heap.objs.size+1:=by
  rw[Heap.size_update,Heap.size_push]
 have hoL:(((s.heap.push (seqObj "list" #[] 0)).update s.heap.objs.size (Obj.mapSeq (·++vs.toArray))).push (seqObj "list" vs.toArray 0)).get? (s.heap.objs.size+1)=some (seqObj "list" vs.toArray 0):=by
  rw[←hsz];exact Heap.get?_push_size _ rfl
 have keep:∀b o,s.heap.get? b=some o→(((s.heap.push (seqObj "list" #[] 0)).update s.heap.objs.size (Obj.mapSeq (·++vs.toArray))).push (seqObj "list" vs.toArray 0)).get? b=some o:=fun b o q=>by
  have hlt:b<s.heap.objs.size:=Heap.lt_size q
  exact Heap.get?_push_of_some _ ((Heap.get?_update_other _ _ (Nat.ne_of_gt hlt)).trans (Heap.get?_push_of_some _ q))
 have hL:L<s.heap.objs.size:=F.ns.lt
 show wpAny _ _ _ _ _ {s with heap:=((s.heap.push (seqObj "list" #[] 0)).update s.heap.objs.size (Obj.mapSeq (·++vs.toArray))).push (seqObj "list" vs.toArray 0)}
 rw[hsz]
 refine wpAny_bind (wpAny_holding (wpAny_call_entry_kw slot_list_sort ⟨_,hoL,rfl⟩ entry_list_sort ?body (ksk_l1 _ _)))
 case body=>
  show wpAny (model prog w) A.in1.in1 (Builtin.«list.sort» ⟨[.ref (s.heap.objs.size+1)],_⟩) _ _ _
  rw[ksk_t1]
  refine ksk_sort (h₀:={}) (L:=L) (m:=mL) (news:=news) (kz:=kz) (s:={s with heap:=((s.heap.push (seqObj "list" #[] 0)).update s.heap.objs.size (Obj.mapSeq (·++vs.toArray))).push (seqObj "list" vs.toArray 0)})
   (F.kept keep) (N.grown keep) hoL (Nat.ne_of_gt (Nat.lt_succ_of_lt hL)) rfl (fun p hp=>Nat.ne_of_lt (Nat.lt_succ_of_lt (Heap.lt_size (N p hp).1))) hlen h64 (fun i v k hv hk h₁ tk own F₁ N₁=>?_) fun h' tk out c F' N' k' =>⟨_,rfl,?_⟩
  ·exact turn i v k hv hk _ _ _ (hP _ fun p hp=>N₁ p (List.mem_append_left _ hp)) fun h₂ tk₂ t hk₂=>KskEnd.intro (s₁:={s with heap:=h₁,toks:=tk}) (F₁.kept hk₂) (N₁.grown hk₂) fun p hp=>hp
  ·exact wpAny_pure ⟨_,rfl,h h' tk out c F' N' k'⟩
end
end
section
open PySem.SeqAt PySem.Builtin PySem.Calls
structure CY(params:Arguments)(body:Expr)(scope:Scope):Prop where
 body:By (fun x p1 kd p2 p3=>body= .Subscript (.Name x p1) (.Constant (.int 0) kd p2) p3) (fun x p1 kd p2 p3=>scope.names=[(x,.local)]) (fun x p1 kd p2 p3=>(x==("__debug__" :Str))=false) (fun x p1 kd p2 p3=>∀fd:FuncData,fd.params=params→fd.defaults= .none→fd.kwdefaults= .none→∀v:Value,bindArgs fd ⟨[v],[]⟩=pure [(x,v)])
 co:scope.isCoroutine=false
 ge:scope.isGenerator=false
 ki:scope.kind= .function
theorem Cc{g:Gx}{B:Fz}{A:Around}{params:Arguments}{body:Expr}{scope:Scope}{fa t:Addr}{o:Obj}{vs:Array Value}{n:Nat}{k:Int}{u:Tok}(K:CY params body scope)(hf:c5 g B (.lam params body scope []) (.ref fa))(hTB:∀a o,g.T.get? a=some o→B a=some o)
  (hA:A.depth<recursionLimit) (ht:B t=some o) (hc:o.cls= .type "tuple") (hd:o.data= .seq vs n) (h0:vs[0]? =some (.int k u)):Ax g.prog g.w A (.ref fa) (fun h=>∀a o,B a=some o→h.get? a=some o) (.ref t) k:=by
 intro s E Q hP hQ
 obtain⟨a,of,fd,hB,hdf,L,rc⟩:=hf.inv
 refine By.e K.body fun x p1 kd p2 p3 z0 hnm hdb hbind=>?_
 subst z0
 refine jO.e L.code fun cc oc cvs tq ecc eo ed eq=>?_
 refine wpAny_call (kla_callFunE hA (hP _ _ hB) hdf (by rw[L.scope];exact K.co) (by rw[L.scope];exact K.ge) L.body ⟨cc,oc,cvs,tq,ecc,hP _ _ eo,ed,eq⟩ ?_)
 rw[hbind fd L.params L.dflt L.kdflt (.ref t)]
 refine wpAny_pure ?_
 rw[L.scope,L.glob,L.bui]
 refine wpAny_newFunctionEnv (by rw[hnm];simp) (fun y hy=>?_) (fun h' hns hsb=>?_) K.ki
 ·rw[List.mem_singleton.mp hy,hnm];simp
 have old:∀b o,s.heap.get? b=some o→h'.get? b=some o:=fun b o e=>hsb.extBut b o (Nat.ne_of_lt (Heap.lt_size e)) (Heap.get?_push_of_some _ e)
 refine⟨g.hl.keeps fun a o e=>old a o (hP a o (hTB a o e)),kla_codeExpr ?_⟩
 generalize hE:newEnv scope s.heap.objs.size mainGlobals fd.closure (fd.qualname++ ".<locals>.") (some fa) fd.code none builtinsNs=E₀
 have hEs:E₀.scope=scope∧E₀.locals=s.heap.objs.size:=by subst hE;exact⟨rfl,rfl⟩
 refine aG hEs fun q1 q2=>?_
 clear hEs
 refine Subscript_ (wpAny_Name (wpAny_loadName_local (by rw[q1];exact K.ki) (by unfold Env.kindOf;rw[q1,hnm];simp) (by rw[q2];exact hns) (v:= .ref t) (by simp) ?_) hdb)
 refine wpAny_Constant_int ?_
 exact eO (IsTup.typeIs (items:=vs) ⟨o,old _ _ (hP _ _ ht),hc,n,hd⟩) slot_tuple_getitem.lookup (getItem_tuple (j:=0) ⟨o,old _ _ (hP _ _ ht),hc,n,hd⟩ (by decide) (by decide) (by
  have:0<vs.size:=(Array.getElem?_eq_some_iff.mp h0).1
  simp[seqIndex?,this]) h0 (hQ h' _ u old)) rfl
theorem uM{α:Type}{kz:List Int}{vs:List α}{ps:List (Int×α)}(hp:ps.Perm (kz.zip vs))(hs:ps.Pairwise fun p q=>p.1≤q.1)(hk:kz.Pairwise (·<·))(hl:kz.length=vs.length):ps.map Prod.snd=vs:=by
 have hz:(kz.zip vs).Pairwise fun p q=>p.1<q.1:=by
  have:((kz.zip vs).map Prod.fst).Pairwise (·<·):=by rw[List.map_fst_zip (Nat.le_of_eq hl)];exact hk
  exact List.pairwise_map.mp this
 have:ps=kz.zip vs:=by
  refine List.Perm.eq_of_pairwise (le:=fun p q=>p.1≤q.1) (fun a b ha hb h1 h2=>?_) hs (hz.imp fun h=>Int.le_of_lt h) hp
  have ha' :=hp.mem_iff.mp ha
  have e:a.1=b.1:=Int.le_antisymm h1 h2
  obtain⟨i,hi,rfl⟩:=List.mem_iff_getElem.mp ha'
  obtain⟨j,hj,rfl⟩:=List.mem_iff_getElem.mp hb
  have hij:i=j:=by
   rcases Nat.lt_trichotomy i j with h|h|h
   ·have:=(List.pairwise_iff_getElem.mp hz) i j hi hj h;exact(aI [] [_,_] (.eq .w .x) (.negSucc 0) (.lt .w .x) 1 (.ff) 0 qq e this).elim
   ·exact h
   ·have:=(List.pairwise_iff_getElem.mp hz) j i hj hi h;exact(aI [] [_,_] (.eq .w .x) 1 (.lt .x .w) 1 (.ff) 0 qq e this).elim
  subst hij;rfl
 rw[this,List.map_snd_zip (Nat.le_of_eq hl.symm)]
section
variable {c:Cx}{σ:St}{X:Value→St→Prop}{B:Fz}{s:Shared}
noncomputable def uN(h:Heap)(L:Addr):List (Addr×Obj):=(List.range h.objs.size).filterMap fun a=>if a=L then none else(h.get? a).map fun o=>(a,o)
theorem mM{h:Heap}{L a:Addr}{o:Obj}:(a,o)∈uN h L↔a≠L∧h.get? a=some o:=by
 unfold uN
 rw[List.mem_filterMap]
 constructor
 ·intro z0
  refine aH z0 fun b _ hb=>?_
  clear z0
  split at hb
  ·cases hb
  ·rename_i hne
   refine aH (Option.map_eq_some_iff.mp hb) fun o' e q=>?_
   cases q
   exact⟨hne,e⟩
 ·intro z0
  refine aG z0 fun hne e=>?_
  clear z0
  exact⟨a,List.mem_range.mpr (Heap.lt_size e),by rw[if_neg hne,e];rfl⟩
theorem Conc.nsSame{h' :Heap}{tk:Nat}{m:Str→Option Value}(hc:Conc c σ B s)(hn:s.heap.Ns c.env.locals m)(hv:∀p∈σ.env,lG c B s.heap m p.1 p.2)(hk:∀a o,a≠c.env.locals→s.heap.get? a=some o→h'.get? a=some o)(hsz:s.heap.objs.size≤h'.objs.size)(hn' :h'.Ns c.env.locals m):
  Conc c σ B {s with heap:=h',toks:=tk}:=by
 refine j4 (bF.split hc.base.nod) fun n1 n2 n3 n4 n5=>?_
 refine⟨hc.base.step (fun a o e ha=>hk a o (fun q=>ha (q▸bF.local_mem c σ)) e) hsz,hc.names,⟨m,hn',fun p hp=>(hv p hp).step (Fz.Le.refl B) fun b vo ⟨o',e'⟩ el ic=>?_⟩,fun p hp=>(hc.own p hp).at fun o e=>hk _ o (fun q=>n2 (q▸List.mem_map_of_mem hp)) e⟩
 refine aH ic fun oc e1 e2=>?_
 clear ic
 have hac:b∈cels c.env σ.env:=eE el (by rw[←e'];exact hp)
 exact⟨oc,hk b oc (fun q=>n1 (q▸hac)) e1,e2⟩
noncomputable def bY(l:List (Int×V)):List V:=l.map fun p=> .tup [.int p.1,p.2]
theorem Cd{params:Arguments}{body:Expr}{scope:Scope}{l:List (Int×V)}{Q:V→St→Prop}(K:CY params body scope)(h64:l.length<64)(hs:(l.map (·.1)).Pairwise (·<·))(h:Q (.lst (bY l)) σ):
  ∀B s fv vs kv (Φ Ψ:Value→Shared→Prop),c5 c.g B (.val (.builtin "sorted")) fv→Reps c.g B [.lst (bY l)] vs→c5 c.g B (.lam params body scope []) kv→Conc c σ B s→(vT c (c5 c.g) B Q Φ)→(jC c X Ψ)→
   wpAny (model c.g.prog c.g.w) c.A (call fv vs [("key",kv)]) Φ Ψ s:=by
 intro B s fv vs kv Φ Ψ hf hr hkv hc hΦ hΨ
 obtain rfl:=hf.inv
 refine aH hr.one fun v z2 r=>?_
 subst z2
 have hkv' :=hkv
 obtain⟨fa,rfl⟩:∃fa,kv= .ref fa:=by cases hkv with|lam _ _ _ _=>exact⟨_,rfl⟩
 obtain⟨la,lo,items,ln,hd0,h1,h2,h3,h4⟩:=r.inv
 refine aH hc.vars fun m hns hv=>?_
 have hlen:items.toList.length=l.length:=by rw[h4.length,bY,List.length_map]
 have N:News {} c.env.locals s.heap (uN s.heap c.env.locals):=fun p hp=>by obtain⟨a,b⟩:=mM.mp hp;exact⟨b,a,rfl⟩
 have F:Fr {} c.env.locals s.heap m:=⟨hns,fun b o e=>(by cases e),Nat.zero_le _⟩
 have hA:c.A.in1.in1.depth<recursionLimit:=by have:=hc.base.ok.depth;have e:recursionLimit=1000:=rfl;show c.A.depth<_;exact aI [_,_,_] [] (.Le (.a .w (.m 4 .y)) (.n 900)) 1000 (.Eq .x (.n 1000)) (.negSucc 900) (.Lt .w .x) 999 qq this e
 have keepB:∀h',News {} c.env.locals h' (uN s.heap c.env.locals)→∀a o,B a=some o→h'.get? a=some o:=fun h' N' a o e=>by
  refine(N' (a,o) (mM.mpr ⟨fun q=>?_,hc.base.frz a o e⟩)).1
  have:=(hc.base.mt _ (bF.local_mem c σ)).1
  rw[←q,e] at this;cases this
 refine AG (vs:=items.toList) (kz:=l.map (·.1)) F N ⟨lo,hc.base.frz _ _ h1,h2,ln,h3⟩ (by rw[List.length_map,hlen]) (by rw[hlen];exact h64) (P:=fun h=>∀a o,B a=some o→h.get? a=some o) (fun h' N' =>keepB h' N') (fun i v k hvi hki=>?_) fun h' tk out cn F' N' hout=>?_
 ·refine aH (h4.get' hvi) fun x ex rx=>?_
  rw[bY,List.getElem?_map] at ex
  refine aH (Option.map_eq_some_iff.mp ex) fun p ep z2=>?_
  subst z2
  rw[List.getElem?_map,ep] at hki
  cases hki
  obtain⟨t,o,tvs,tn,t1,t2,t3,t4⟩:=rx.inv
  cases ht:tvs.toList with
  |nil=>rw[ht] at t4;cases t4
  |cons a r=>
   rw[ht] at t4
   cases t4 with
   |cons a1 _=>
    obtain⟨u⟩:=a1.inv
    exact Cc K hkv' hc.base.TB hA t1 t2 t3 (by rw[←Array.getElem?_toList,ht];rfl)
 ·refine cI hout fun ps z0=>?_
  clear hout
  refine eT z0 fun hp hout hps=>?_
  clear z0
  have hsame:out.toList=items.toList:=by rw[hout];exact uM hp (by simpa using hps) hs (by rw[List.length_map,hlen])
  have eD:=(N' _ (List.mem_cons_self ..)).1
  have hsz:s.heap.objs.size≤h'.objs.size:=Nat.le_trans (Nat.le_succ _) (Nat.le_of_lt (Heap.lt_size eD))
  have hc₁:Conc c σ B {s with heap:=h',toks:=tk}:=hc.nsSame hns hv (fun a o hne e=>(N' (a,o) (List.mem_cons_of_mem _ (mM.mpr ⟨hne,e⟩))).1) hsz F'.ns
  have hge:s.heap.objs.size≤s.heap.objs.size+1:=Nat.le_succ _
  have hBn:B (s.heap.objs.size+1)=none:=by
   cases q:B (s.heap.objs.size+1) with
   |none=>rfl
   |some o=>exact absurd (Heap.lt_size (hc.base.frz _ o q)) (Nat.not_lt.mpr hge)
  have hc₂:=hc₁.freeze eD hBn (Nat.le_trans hc.base.size hge) (fun hm=>absurd (hc.base.mt _ hm).2.2.2 (Nat.not_lt.mpr hge)) fun p hp e=>absurd (hc.base.pins p hp).lt (by rw[e];exact Nat.not_lt.mpr hge)
  have hBl:=Fz.Le.put (seqObj "list" out cn) hBn
  exact hΦ _ _ σ _ _ h (.lst rfl (Fz.put_self _ _ _) rfl rfl (by rw[hsame];exact h4.mono hBl)) hBl hc₂
end
end
noncomputable def u9(g:Gx)(h:Heap)(D:Addr)(kvs:List (Str×Value)):Prop:=∃o,h.get? D=some o∧mQ (PySem.strKind g.prog g.w) o kvs
theorem u9.at{g:Gx}{h h' :Heap}{D:Addr}{kvs:List (Str×Value)}(x:u9 g h D kvs)(e:∀o,h.get? D=some o→h'.get? D=some o):u9 g h' D kvs:=by obtain⟨o,q,r⟩:=x;exact⟨o,e _ q,r⟩
theorem kX(l:List (Str×V))(k:Str)(v:V):(d6 l k v).length≤l.length+1:=by
 unfold d6
 split<;>simp
noncomputable def sH(c:Cx)(target kx vx:Expr)(ifs:List Expr)(ce:List (Str×Slot))(CI:List V→List (Str×V)→List (Addr×OV)→Prop)(X:Value→St→Prop):Prop:=
 ∀x r ys own,CI (x::r) ys own→∀e ps b,BE (c.at e ps b) target x ⟨ce,own⟩ X fun σ₂=>oZ (c.at e ps b) ifs σ₂ X fun ok σ₃=>if ok=true then WE (c.at e ps b) kx σ₃ X (fun kv σ₄=>∃k,kv= .str k∧WE (c.at e ps b) vx σ₄ X fun y σ₅=>CI r (d6 ys k y) σ₅.own) else CI r ys σ₃.own
noncomputable def HS(prog:Program)(w:World)(A:Around)(D:Addr)(env:Env)(R:Result→Shared→Prop)(I:Nat→Shared→Prop)(n:Nat)(kv:Value):Value→Shared→Prop:=fun vv s₅=>wpAny (model prog w) A (dictSet D kv vv) (fun _=>tQ I n) (wX prog w A env R) s₅
noncomputable def HW(prog:Program)(w:World)(A:Around)(vx:Expr)(D:Addr)(env:Env)(R:Result→Shared→Prop)(I:Nat→Shared→Prop)(n:Nat):Value→Shared→Prop:=fun kv s₄=>wpAny (model prog w) A (eval vx env) (HS prog w A D env R I n kv) (wX prog w A env R) s₄
noncomputable def HU(prog:Program)(w:World)(A:Around)(kx vx:Expr)(D:Addr)(env:Env)(R:Result→Shared→Prop)(I:Nat→Shared→Prop)(n:Nat):Bool→Shared→Prop:=fun ok s₃=>if ok=true then wpAny (model prog w) A (eval kx env) (HW prog w A vx D env R I n) (wX prog w A env R) s₃ else tQ I n s₃
noncomputable def HT(prog:Program)(w:World)(A:Around)(kx vx target:Expr)(ifs:List Expr)(D:Addr)(env:Env)(R:Result→Shared→Prop)(I:Nat→Shared→Prop)(n:Nat):Option Value→Shared→Prop:=fun r s₁=>match r with
   |none=>R (.ok .next) s₁
   |some v=>wpAny (model prog w) A (assign target env v) (fun _ s₂=>
     wpAny (model prog w) A (forIn ifs true fun c r=>if r=true then do let ok ←isTrue c env (eval c env);pure (ForInStep.yield ok) else pure (ForInStep.yield r)) (HU prog w A kx vx D env R I n) (wX prog w A env R) s₂) (wX prog w A env R) s₁
theorem xK{prog:Program}{w:World}{A:Around}{s:Shared}{R:Result→Shared→Prop}{kx vx target iter:Expr}{ifs:List Expr}{scope:Scope}{pos:Pos}{it:Value}{D:Addr}{env:Env}(I:Nat→Shared→Prop)
  (turn:∀n s,I n s→wpAny (model prog w) A (pyNext it) (HT prog w A kx vx target ifs D env R I n) (wX prog w A env R) s)
  (n:Nat) (h:I n s) (ht:∀v,letOwnedTupleGo target it v=pure ()):codeAny (model prog w) A (.compLoop (.DictComp kx vx [⟨target,iter,ifs,0⟩] scope pos) 0 it (.ref D) env) R s:=codeAny_compLoop_testsD I turn n h ht
section
variable {c:Cx}{σ:St}{X:Value→St→Prop}{B:Fz}{s:Shared}
noncomputable def HV(c:Cx)(e:Env)(ps:List (Addr×Obj))(b0 B:Fz)(ce:List (Str×Slot))(CI:List V→List (Str×V)→List (Addr×OV)→Prop)(I D:Addr)(items:List V)(fp:List Addr)(P:Nat→Value→Prop)(Sx:Nat→Heap→Prop)(k:Nat)(s' :Shared):Prop:=pY (fun i B' ys own' vs=>k=items.length+1-i) (fun i B' ys own' vs=>i≤items.length) (fun i B' ys own' vs=>CI (items.drop i) ys own') (fun i B' ys own' vs=>qX c.g B' I items i s'.heap fp P Sx) (fun i B' ys own' vs=>B.Le B') (fun i B' ys own' vs=>Conc (c.at e ps b0) ⟨ce,own'⟩ B' s') (fun i B' ys own' vs=>u9 c.g s'.heap D vs) (fun i B' ys own' vs=>RepD c.g B' ys vs) (fun i B' ys own' vs=>aP (c.at e ps b0) ⟨ce,own'⟩ B' I) (fun i B' ys own' vs=>aP (c.at e ps b0) ⟨ce,own'⟩ B' D) (fun i B' ys own' vs=>ys.length≤i)
theorem zM{kx vx target iter:Expr}{ifs:List Expr}{scope:Scope}{pos:Pos}{ce:List (Str×Slot)}{CI:List V→List (Str×V)→List (Addr×OV)→Prop}{items:List V}{I D:Addr}{fp:List Addr}{P:Nat→Value→Prop}{Sx:Nat→Heap→Prop}{own:List (Addr×OV)}{R:Result→Shared→Prop}{xc:Cx}{e:Env}{ps:List (Addr×Obj)}{b0:Fz}
  (hxc:xc=c.at e ps b0) (hcn:(ce.map (·.1)).Nodup∧∀p∈ce,(p.1==("__debug__" :Str))=false) (hcels:cels e ce=[]) (hcv:∀B',B.Le B'→∀h m,∀p∈ce,lG xc B' h m p.1 p.2)
  (ht:sH c target kx vx ifs ce CI X) (hci:CI items [] own) (hlen:items.length≤sizeLine) (hc:Conc xc ⟨ce,own⟩ B s) (it:qX c.g B I items 0 s.heap fp P Sx) (gI:aP xc ⟨ce,own⟩ B I) (gD:aP xc ⟨ce,own⟩ B D) (hID:I≠D) (hgo:∀it v,letOwnedTupleGo target it v=pure ()) (hD:u9 c.g s.heap D [])
  (hR:∀ys own' vs B' s',CI [] ys own'→B.Le B'→Conc xc ⟨ce,own'⟩ B' s'→u9 c.g s'.heap D vs→RepD c.g B' ys vs→aP xc ⟨ce,own'⟩ B' D→R (.ok .next) s')
  (hX:∀x s',zY xc X x s'→(∀σ' B',Conc xc σ' B' s'→True)→notedBy (model c.g.prog c.g.w) c.A e (fun x s' =>R (.error x) s') x s'):
  codeAny (model c.g.prog c.g.w) c.A (.compLoop (.DictComp kx vx [⟨target,iter,ifs,0⟩] scope pos) 0 (.ref I) (.ref D) e) R s:=by
 subst hxc
 have hok:=hc.base.ok
 have hA:c.A.handled=none:=hok.handled
 have hX:∀x s',zY (c.at e ps b0) X x s'→notedBy (model c.g.prog c.g.w) c.A e (fun x s' =>R (.error x) s') x s' :=fun x s' h=>hX x s' h fun _ _ _=>trivial
 refine xK (HV c e ps b0 B ce CI I D items fp P Sx) ?_ (items.length+1)
  ⟨0,B,[],own,[],rfl,Nat.zero_le _,by simpa using hci,it,Fz.Le.refl B,hc,hD,.nil,gI,gD,Nat.le_refl _⟩ (fun v=>hgo _ v)
 intro k s' z0
 refine pY.e z0 fun i B' ys own' vs z1 hi hci' it' hle' hc' hD' hys gI' gD' hyl=>?_
 clear z0
 subst z1
 by_cases hlt:i<items.length
 ·refine(it'.walks c.A hA).item i s' _ _ hlt it'.st fun v h' tk hP hst hk=>?_
  have hk' :∀a o,a≠I→s'.heap.get? a=some o→h'.get? a=some o:=fun a o hne e=>hk a o (by simpa using hne) e
  have hc₂:Conc (c.at e ps b0) ⟨ce,own'⟩ B' {s' with heap:=h',toks:=tk}:=hc'.kept fun a o e g=> .of_get (hk' a o (fun q=>g (by rw[q];exact gI')) e)
  refine aH (it'.item i v hP) fun x ex rx=>cW.e (it'.cls (i+1) h' hst) fun oI nI eI eI2 eI3 hclI=>aH (id hD') fun oD eD0 eD1=>?_
  have eD:h'.get? D=some oD:=hk' D oD (Ne.symm hID) eD0
  have hclD:∀v,oD.data≠ .cell v:=fun v q=>by obtain⟨_,_,_,q',_⟩:=eD1;rw[q'] at q;cases q
  have hcD:=hc₂.pinOn gD' eD
  have hcp:=hcD.pinOn (gI'.pinOn (o:=oD) (Ne.symm hID)) eI
  have hokD:vW ((c.at e ps b0).pin [(D,oD)]):=hok.pin
  have backp:∀x s',zY (((c.at e ps b0).pin [(D,oD)]).pin [(I,oI)]) X x s'→notedBy (model c.g.prog c.g.w) c.A e (fun x s' =>R (.error x) s') x s' :=fun x s' hx=>hX x s' ((hx.pinOff hokD hclI).pinOff hok hclD)
  have turn:=ht x (items.drop (i+1)) ys own' (by rw[←oS ex];exact hci') e ((I,oI)::(D,oD)::ps) b0
  refine turn B' _ v _ _ rx hcp (fun _ _ σ₂ B₂ s₂ hq₂ _ hle₂ hc₃=>?_) backp
  refine hq₂ B₂ s₂ _ _ hc₃ (fun ok ok' σ₃ B₃ s₃ hq₃ hr₃ hle₃ hc₄=>?_) backp
  have hr₃:ok=ok' :=hr₃
  subst hr₃
  have behind:∀(σ₄:St) (B₄:Fz) (s₄:Shared),B'.Le B₄→Conc (((c.at e ps b0).pin [(D,oD)]).pin [(I,oI)]) σ₄ B₄ s₄→Conc (c.at e ps b0) ⟨ce,σ₄.own⟩ B₄ s₄∧s₄.heap.get? D=some oD∧s₄.heap.get? I=some oI∧aP (c.at e ps b0) ⟨ce,σ₄.own⟩ B₄ I∧aP (c.at e ps b0) ⟨ce,σ₄.own⟩ B₄ D:=fun σ₄ B₄ s₄ hB₄ hc₄=>by
   have h1:=(hc₄.pinOff hokD hclI).pinOff hok hclD
   have h2:Conc (c.at e ps b0) ⟨ce,σ₄.own⟩ B₄ s₄:=Conc.reset (e:=σ₄.env) h1 hcn hcels fun h m=>hcv B₄ (hle'.trans hB₄) h m
   have pI:=hc₄.base.pins (I,oI) (List.mem_cons_self ..)
   have pD:=hc₄.base.pins (D,oD) (List.mem_cons_of_mem _ (List.mem_cons_self ..))
   have gI₄:aP (c.at e ps b0) σ₄ B₄ I:=⟨gI'.1,fun h=>(hc₄.base.mt I h).2.2.1 (I,oI) (List.mem_cons_self ..) rfl,(hc₄.base.pfree (I,oI) (List.mem_cons_self ..)).1,gI'.2.2.2⟩
   have gD₄:aP (c.at e ps b0) σ₄ B₄ D:=⟨gD'.1,fun h=>(hc₄.base.mt D h).2.2.1 (D,oD) (List.mem_cons_of_mem _ (List.mem_cons_self ..)) rfl,(hc₄.base.pfree (D,oD) (List.mem_cons_of_mem _ (List.mem_cons_self ..))).1,gD'.2.2.2⟩
   have sub:∀a,aP (c.at e ps b0) σ₄ B₄ a→aP (c.at e ps b0) ⟨ce,σ₄.own⟩ B₄ a:=fun a g=>⟨g.1,fun h=>g.2.1 (by
    simp only[bF,List.mem_cons,List.mem_append] at h ⊢
    rcases h with h|h|h
    ·exact .inl h
    ·rw[show cels (c.at e ps b0).env ce=[] from hcels] at h;cases h
    ·exact .inr (.inr h)),g.2.2.1,g.2.2.2⟩
   exact⟨h2,pD.exact fun hF=>h1.frameGhost D hF gD₄,pI.exact fun hF=>h1.frameGhost I hF gI₄,sub I gI₄,sub D gD₄⟩
  have itn:∀(B₄:Fz) (s₄:Shared),B'.Le B₄→s₄.heap.get? I=some oI→(∀a o,B₄ a=some o→s₄.heap.get? a=some o)→qX c.g B₄ I items (i+1) s₄.heap fp P Sx:=fun B₄ s₄ hB₄ eI₄ hf=>by
   have it₂:qX c.g B' I items (i+1) h' fp P Sx:={it' with st:=hst}
   refine lB hA it₂ hB₄ (fun o e=>?_) (fun a o e=>hf a o (hB₄ a o e)) hc₂.base.frz
   rw[eI] at e;cases e;exact eI₄
  cases ok with
  |false=>
   exact j4 (behind σ₃ B₃ s₃ (hle₂.trans hle₃) hc₄) fun h1 h2 h3 h4 h5=>⟨items.length+1-(i+1),by exact aI [_,_,_,_] [] (.Eq (.a .w (.a .y (.n 1))) (.a .z (.n 1))) 1 (.Eq (.a .x .y) (.a .z (.n 1))) (.negSucc 0) (.Lt .w .x) 0 qq (Nat.sub_add_cancel (aB [_,_] [] (.Lt .w .x) 1 (.Le (.a .w (.n 1)) (.a .x (.n 1))) 0 qq hlt)) (Nat.sub_add_cancel (aB [_,_,_] [] (.Eq (.a .y (.a .w (.n 1))) (.a .x (.n 1))) 1 (.Le .w (.a .x (.n 1))) 0 qq (Nat.sub_add_cancel (aB [_,_] [] (.Lt .w .x) 1 (.Le (.a .w (.n 1)) (.a .x (.n 1))) 0 qq hlt)))),i+1,B₃,ys,σ₃.own,vs,rfl,by exact aB [_,_] [] (.Lt .w .x) 1 (.Le (.a .w (.n 1)) .x) 0 qq hlt,hq₃,itn B₃ s₃ (hle₂.trans hle₃) h3 h1.base.frz,hle'.trans (hle₂.trans hle₃),h1,⟨oD,h2,eD1⟩,hys.mono (hle₂.trans hle₃),h4,h5,by exact aB [_,_] [] (.Le .w .x) 1 (.Le .w (.a .x (.n 1))) 0 qq hyl⟩
  |true=>
   refine hq₃ B₃ s₃ _ _ hc₄ (fun kv ky σ₄ B₄ s₄ hq₄ hr₄ hle₄ hc₅=>?_) backp
   refine cI hq₄ fun k z0=>?_
   clear hq₄
   refine aG z0 fun z2 hq₄=>?_
   clear z0
   subst z2
   obtain⟨kt⟩:=hr₄.inv
   refine hq₄ B₄ s₄ _ _ hc₅ (fun y Y σ₅ B₅ s₅ hq₅ hr₅ hle₅ hc₆=>?_) backp
   have hB₄:=((hle₂.trans hle₃).trans hle₄).trans hle₅
   refine j4 (behind σ₅ B₅ s₅ hB₄ hc₆) fun h1 h2 h3 h4 h5=>?_
   refine wpAny_dictSet_pairs (k:=k) (by simp[PySem.strKind,Value.isStrOf]) (eD1.at h2) (fun h₆ hl₆ hs₆=>?_) (by rw[hys.length];exact eQ [_,_,_,_] [] (.Le .y .x) 1 (.Le .w .z) 1 (.Lt .z .y) 1 (.Le .w .x) 0 qq hlen hyl hlt)
   have hc₇:Conc (c.at e ps b0) ⟨ce,σ₅.own⟩ B₅ {s₅ with heap:=h₆,toks:=s₅.toks+1}:=h1.kept (tk:=s₅.toks+1) fun a o e g=> .of_get ((hs₆.2 a fun q=>g (by rw[q];exact h5)).trans e)
   refine aH (mQ.of hl₆) fun oD' eo' od' =>?_
   exact⟨items.length+1-(i+1),by exact aI [_,_,_,_] [] (.Eq (.a .w (.a .y (.n 1))) (.a .z (.n 1))) 1 (.Eq (.a .x .y) (.a .z (.n 1))) (.negSucc 0) (.Lt .w .x) 0 qq (Nat.sub_add_cancel (aB [_,_] [] (.Lt .w .x) 1 (.Le (.a .w (.n 1)) (.a .x (.n 1))) 0 qq hlt)) (Nat.sub_add_cancel (aB [_,_,_] [] (.Eq (.a .y (.a .w (.n 1))) (.a .x (.n 1))) 1 (.Le .w (.a .x (.n 1))) 0 qq (Nat.sub_add_cancel (aB [_,_] [] (.Lt .w .x) 1 (.Le (.a .w (.n 1)) (.a .x (.n 1))) 0 qq hlt)))),i+1,B₅,d6 ys k Y,σ₅.own,stored vs k y,rfl,by exact aB [_,_] [] (.Lt .w .x) 1 (.Le (.a .w (.n 1)) .x) 0 qq hlt,hq₅,itn B₅ _ hB₄ ((hs₆.2 I hID).trans h3) hc₇.base.frz,hle'.trans hB₄,hc₇,⟨oD',eo',od'⟩,
    (hys.mono hB₄).store hr₅,h4,h5,by have:=kX ys k Y;exact aI [_,_,_] [] (.Le .y .x) 1 (.Le .w (.a .y (.n 1))) 1 (.Le .w (.a .x (.n 1))) 0 qq hyl this⟩
 ·have hin:i=items.length:=by exact Nat.le_antisymm (hi) (aB [_,_] [] (.Nlt .x .w) 1 (.Le .w .x) 0 qq hlt)
  subst hin
  refine(it'.walks c.A hA).done s' _ _ it'.st fun h' tk hk=>?_
  have hk' :∀a o,a≠I→s'.heap.get? a=some o→h'.get? a=some o:=fun a o hne e=>hk a o (by simpa using hne) e
  have hc₂:Conc (c.at e ps b0) ⟨ce,own'⟩ B' {s' with heap:=h',toks:=tk}:=hc'.kept fun a o e g=> .of_get (hk' a o (fun q=>g (by rw[q];exact gI')) e)
  rw[List.drop_length] at hci'
  exact hR ys own' vs B' _ hci' hle' hc₂ (hD'.at fun o e=>hk' D o (Ne.symm hID) e) hys gD'
theorem Bo{kx vx target iter:Expr}{ifs:List Expr}{scope:Scope}{pos:Pos}{Φ Ψ:Value→Shared→Prop}{ce:List (Str×Slot)}
  (hk:scope.kind= .function) (hn:(scope.names.map (·.1)).Nodup) (hd:∀p∈scope.names,(p.1==("__debug__" :Str))=false) (hs:∀x,foldedSetIterable iter c.env x=pure x) (hce:c0 σ.env scope.names ce)
  (h:mH c iter σ X fun items σ₁=>items.length≤sizeLine∧σ₁.env=σ.env∧∃CI:List V→List (Str×V)→List (Addr×OV)→Prop,CI items [] σ₁.own∧sH c target kx vx ifs ce CI (fun cls σ' =>X cls ⟨σ.env,σ'.own⟩)∧∀ys own B' s' D C,CI [] ys own→B.Le B'→qH c D→Conc c ⟨σ.env,(D,.dct ys)::own⟩ B' s'→aP c ⟨σ.env,(D,.dct ys)::own⟩ B' C→∀h',Heap.SameBut C s'.heap h'→Φ (.ref D) {s' with heap:=h'})
  (hgo:∀it v,letOwnedTupleGo target it v=pure ())
  (hc:Conc c σ B s) (hΨ:jC c X Ψ):
  wpAny (model c.g.prog c.g.w) c.A (comprehension (.DictComp kx vx [⟨target,iter,ifs,0⟩] scope pos) scope c.env (firstIterPos [⟨target,iter,ifs,0⟩] pos) newDict false (eval iter c.env) none) Φ Ψ s:=by
 obtain⟨cl,hcl,hcl1,hcl2⟩:∃cl,closureFor scope c.env=pure cl∧(∀x a,cl.lookup x=some a→c.env.cells.lookup x=some a)∧∀p∈scope.names,p.2= .free→(cl.lookup p.1).isSome=true:=
  jL fun p hp hf=>by obtain⟨Y,hY⟩:=hce.free p hp hf;exact hc.getC hY
 have hlook:∀x∈scope.names,x.2= .local→scope.names.lookup x.1=some .local:=fun x hx hl=>cY hn (by rw[←hl];exact hx)
 refine xL (g:=⟨target,iter,ifs,0⟩) (gs:=[]) rfl hs hcl hk hlook ?_
 refine h B s _ _ hc (fun I items fp P Sx σ₁ B₁ s₁ hq it gI hle hc₁=>?_) hΨ
 refine eT hq fun hlen he z0=>?_
 clear hq
 refine dT z0 fun CI hci hturn hfin=>?_
 clear z0
 obtain⟨e₁,o₁⟩:=σ₁
 simp only at he hci
 subst he
 refine wpAny_newObj_type (wpAny_newFunctionEnv hce.noCell (by intro y hy;simp at hy) (fun h₁ hns₁ hsb₁=>?_) hk)
 dsimp only at hns₁ hsb₁ ⊢
 generalize hH2:s₁.heap.push {cls:= .type "dict",dict:=none,data:= .dict #[]}=H2 at hns₁ hsb₁ ⊢
 have hsz2:H2.objs.size=s₁.heap.objs.size+1:=by rw[←hH2,Heap.size_push]
 have hDlt:s₁.heap.objs.size<H2.objs.size:=by exact aB [_,_] [] (.Eq .x (.a .w (.n 1))) (.negSucc 0) (.Lt .w .x) 0 qq hsz2
 have hD0:=hc₁.freshSys
 have old:∀b o,s₁.heap.get? b=some o→h₁.get? b=some o:=fun b o e=>hsb₁.extBut b o (Nat.ne_of_lt (Nat.lt_trans (Heap.lt_size e) hDlt)) (Heap.get?_push_of_some _ (by rw[←hH2];exact Heap.get?_push_of_some _ e))
 have hDg:h₁.get? s₁.heap.objs.size=some {cls:= .type "dict",dict:=none,data:= .dict #[]}:=hsb₁.extBut _ _ (Nat.ne_of_lt hDlt) (Heap.get?_push_of_some _ (by rw[←hH2];exact Heap.get?_push_size _ rfl))
 have hsz1:h₁.objs.size=H2.objs.size+1:=by rw[hsb₁.1,Heap.size_push]
 have hcA:Conc c ⟨σ.env,o₁⟩ B₁ {s₁ with heap:=h₁,toks:=s₁.toks+([]:List (Str×Value)).length}:=hc₁.grow old (by exact aI [_,_,_] [] (.Lt .w .y) 1 (.Eq .x (.a .y (.n 1))) (.negSucc 0) (.Le .w .x) 0 qq hDlt hsz1)
 have gnew:∀a,s₁.heap.objs.size≤a→aP c ⟨σ.env,o₁⟩ B₁ a:=fun a ha=>by
  refine⟨Nat.le_trans hc₁.base.size ha,fun hm=>absurd (hc₁.base.mt a hm).2.2.2 (Nat.not_lt.mpr ha),?_,fun p hp e=>absurd (e▸(hc₁.base.pins p hp).lt) (Nat.not_lt.mpr ha)⟩
  cases q:B₁ a with
  |none=>rfl
  |some o=>exact absurd (Heap.lt_size (hc₁.base.frz a o q)) (Nat.not_lt.mpr ha)
 have hIlt:I<s₁.heap.objs.size:=by
  obtain⟨o,_,e,_⟩:=it.cls 0 _ it.st
  exact Heap.lt_size e
 have gC:=gnew H2.objs.size (by exact aB [_,_] [] (.Lt .w .x) 1 (.Le .w .x) 0 qq hDlt)
 have hcI:=hcA.compIn hk hn hd hce hcl1 hcl2 gC hns₁
 have gin:∀a,aP c ⟨σ.env,o₁⟩ B₁ a→a≠H2.objs.size→aP (c.comp (compEnvC scope cl H2.objs.size c.env) (eL h₁ (c.env.locals::cels c.env σ.env)) B₁) ⟨ce,o₁⟩ B₁ a:=fun a g hne=>by
  refine⟨g.1,fun hm=>?_,g.2.2.1,fun p hp e=>?_⟩
  ·have:a∈H2.objs.size::o₁.map (·.1):=by
    have hM:bF (c.comp (compEnvC scope cl H2.objs.size c.env) (eL h₁ (c.env.locals::cels c.env σ.env)) B₁) ⟨ce,o₁⟩=H2.objs.size::o₁.map (·.1):=by
     show H2.objs.size::(cels _ ce++_)=_
     rw[hce.cels];rfl
    rw[hM] at hm;exact hm
   rcases List.mem_cons.mp this with h|h
   ·exact hne h
   ·exact g.2.1 (bF.own_mem h)
  ·rcases List.mem_append.mp hp with hp|hp
   ·refine aG (dG.mp hp) fun q _=>?_
    rw[e] at q
    rcases List.mem_cons.mp q with h|h
    ·exact g.2.1 (h▸bF.local_mem c ⟨σ.env,o₁⟩)
    ·exact g.2.1 (bF.cel_mem (σ:=⟨σ.env,o₁⟩) h)
   ·exact g.2.2.2 p hp e
 have it₁:qX c.g B₁ I items 0 h₁ fp P Sx:=lB hc.base.ok.handled it (Fz.Le.refl B₁) (fun o e=>old I o e) (fun a o e=>old a o (hc₁.base.frz a o e)) hc₁.base.frz
 have hnd:(ce.map (·.1)).Nodup∧∀p∈ce,(p.1==("__debug__" :Str))=false:=hcI.names
 have out:∀{σ' :St} {B' :Fz} {s' :Shared},Conc (c.comp (compEnvC scope cl H2.objs.size c.env) (eL h₁ (c.env.locals::cels c.env σ.env)) B₁) σ' B' s'→Conc c ⟨σ.env,σ'.own⟩ B' s'∧aP c ⟨σ.env,σ'.own⟩ B' H2.objs.size∧∃m,s'.heap.Ns H2.objs.size m:=fun{σ' B' s'} hc' =>by
  have h1:=hcA.compOut hc'
  refine aH hc'.vars fun m n' _=>?_
  refine⟨h1,⟨gC.1,fun hm=>?_,(hc'.base.mt _ (bF.local_mem _ σ')).1,gC.2.2.2⟩,m,n'⟩
  have split:H2.objs.size∈c.env.locals::cels c.env σ.env∨H2.objs.size∈σ'.own.map (·.1):=by
   simp only[bF,List.mem_cons,List.mem_append] at hm ⊢
   rcases hm with h|h|h
   ·exact .inl (.inl h)
   ·exact .inl (.inr h)
   ·exact .inr h
  rcases split with h|h
  ·exact gC.2.1 (by
    rcases List.mem_cons.mp h with h|h
    ·rw[h];exact bF.local_mem c ⟨σ.env,o₁⟩
    ·exact bF.cel_mem (σ:=⟨σ.env,o₁⟩) h)
  ·exact(bF.split hc'.base.nod).2.1 h
 have loop:=zM (c:=c) (X:=fun cls σ' =>X cls ⟨σ.env,σ'.own⟩) (kx:=kx) (vx:=vx) (target:=target) (iter:=iter) (ifs:=ifs) (scope:=scope) (pos:=pos) (CI:=CI) (D:=s₁.heap.objs.size) (R:=CE (model c.g.prog c.g.w) c.A Ψ none Φ (.ref s₁.heap.objs.size) (compEnvC scope cl H2.objs.size c.env))
  (e:=compEnvC scope cl H2.objs.size c.env) (ps:=eL h₁ (c.env.locals::cels c.env σ.env)++c.pins) rfl hnd (hce.cels _) (hcA.compVars hn hce hcl1 hcl2) hturn hci hlen hcI it₁ (gin I ⟨gI.1,gI.2.1,gI.2.2.1,gI.2.2.2⟩ (Nat.ne_of_lt (Nat.lt_trans hIlt hDlt))) (gin _ (gnew _ (Nat.le_refl _)) (Nat.ne_of_lt hDlt)) (Nat.ne_of_lt hIlt) hgo ⟨_,hDg,_,_,⟨rfl,rfl,rfl⟩,rfl,(fun j hj=>by simp at hj),.nil,List.nodup_nil⟩ ?fin ?exc
 case fin=>
  intro ys own' vs B' s' hci' hB' hc' hD' hys gD'
  refine eT (out hc') fun h1 gC' z0=>cI z0 fun m' hns' =>?_
  clear z0
  have gD'' :aP c ⟨σ.env,own'⟩ B' s₁.heap.objs.size:=gD'.compOut hcA
  refine aH (id hD') fun oD eD0 eD1=>?_
  have hown:=h1.ownGhost gD'' (ov:= .dct ys) ⟨hD0,oD,vs,eD0,eD1,hys⟩
  have gCo:aP c ⟨σ.env,(s₁.heap.objs.size,.dct ys)::own'⟩ B' H2.objs.size:=by
   refine⟨gC'.1,fun hm=>?_,gC'.2.2.1,gC'.2.2.2⟩
   have hpm:(s₁.heap.objs.size::bF c ⟨σ.env,own'⟩).Perm (bF c ⟨σ.env,(s₁.heap.objs.size,.dct ys)::own'⟩):=by
    unfold bF
    simp only[List.map_cons]
    exact(List.Perm.swap _ _ _).trans ((List.perm_middle.symm).cons _)
   rcases List.mem_cons.mp (hpm.mem_iff.mpr hm) with q|q
   ·exact absurd q (Nat.ne_of_gt hDlt)
   ·exact gC'.2.1 q
  exact⟨m',hns',fun h' hsb=>hfin ys own' _ s' s₁.heap.objs.size H2.objs.size hci' (hle.trans hB') hc₁.base.size hown gCo h' hsb⟩
 case exc=>
  intro x s' z0
  refine jO.e z0 fun σ' B' ea cls hx z1 hc' hF=>?_
  clear z0
  subst z1
  intro _
  refine dT hc'.base.ok.flive fun L hL _ _=>fB hc' (show(compEnvC scope cl H2.objs.size c.env).frame=_ from hc'.base.ok.fsame) hL hF fun s₁ hc₁' hN=>eT (out hc₁') fun h1 gC' z0=>cI z0 fun m' hns' =>?_
  clear z0
  refine⟨m',hns',fun h' hsb=>?_⟩
  refine aG hN fun gea z0=>?_
  clear hN
  refine lJ.e z0 fun oe vs T oT ts e1 e2 e3 e4 e5 e6 e7 e8 e9=>?_
  clear z0
  have gea' :=aP.compOut hcA gea
  have gT' :=aP.compOut hcA e6
  have eaC:ea≠H2.objs.size:=fun q=>gea.2.1 (q▸bF.local_mem _ σ')
  have TC:T≠H2.objs.size:=fun q=>e6.2.1 (q▸bF.local_mem _ σ')
  have hN' :k7 c ⟨σ.env,σ'.own⟩ B' ea cls (rawInt L) h' :=⟨gea',oe,vs,T,oT,ts,(hsb.2 ea eaC).trans e1,e2,e3,e4,e5,gT',(hsb.2 T TC).trans e7,e8,e9⟩
  have h2:Conc c ⟨σ.env,σ'.own⟩ B' {s₁ with heap:=h'}:=h1.kept (tk:=s₁.toks) fun a o e g=> .of_get ((hsb.2 a fun q=>g (q▸gC')).trans e)
  unfold PySem.passOn
  refine wpAny_bind (wpAny_field ((hsb.2 ea eaC).trans e1) e3 e4 ?_)
  rw[if_neg (show¬((Value.ref T==Value.none)=true) from by simp)]
  have hfr:(compEnvC scope cl H2.objs.size c.env).frame=some L:=(show(compEnvC scope cl H2.objs.size c.env).frame=_ from hc'.base.ok.fsame).trans hL
  rw[hfr]
  refine wpAny_bind (dB h2 hN' (some L) fun s₂ hc₂ hN₂=>?_)
  have hcL:c.fenv.frame=some L:=hL
  exact wpAny_throw (hΨ _ _ ⟨_,B',ea,cls,hx,rfl,hc₂,k7.fly hcL hN₂⟩)
 exact codeAny_compStart_dict loop ((it₁.walks c.A hc.base.ok.handled).self 0 {s₁ with heap:=h₁,toks:=s₁.toks+([]:List (Str×Value)).length} _ _ it₁.st loop)
end
section
variable {c:Cx}{σ:St}{X:Value→St→Prop}
noncomputable def Gs(J:List (Str×V)→List (Addr×OV)→Prop)(ys:List (Str×V))(k:Str)(y:V)(σ:St):Prop:=J (d6 ys k y) σ.own
noncomputable def HK(c:Cx)(X:Value→St→Prop)(J:List (Str×V)→List (Addr×OV)→Prop)(vx:Expr)(ys:List (Str×V))(kv:V)(σ:St):Prop:=∃k,kv= .str k∧WE c vx σ X (Gs J ys k)
theorem HR{J:List (Str×V)→List (Addr×OV)→Prop}{vx:Expr}{ys:List (Str×V)}{k:Str}(h:WE c vx σ X (Gs J ys k)):HK c X J vx ys (.str k) σ:=⟨k,rfl,h⟩
noncomputable def I7(c:Cx)(X:Value→St→Prop)(J:List (Str×V)→List (Addr×OV)→Prop)(kx vx:Expr)(ys:List (Str×V))(ok:Bool)(σ:St):Prop:=if ok=true then WE c kx σ X (HK c X J vx ys) else J ys σ.own
noncomputable def I6(c:Cx)(X:Value→St→Prop)(J:List (Str×V)→List (Addr×OV)→Prop)(ifs:List Expr)(kx vx:Expr)(ys:List (Str×V))(σ:St):Prop:=oZ c ifs σ X (I7 c X J kx vx ys)
noncomputable def yB(c:Cx)(target kx vx:Expr)(ifs:List Expr)(ce:List (Str×Slot))(CI:List V→List (Str×V)→List (Addr×OV)→Prop)(X:Value→St→Prop):Prop:=
 ∀J:List V→List (Str×V)→List (Addr×OV)→Prop,(∀r ys own,CI r ys own→J r ys own)→∀x r ys own,CI (x::r) ys own→∀e ps b,BE (c.at e ps b) target x ⟨ce,own⟩ X (I6 (c.at e ps b) X (J r) ifs kx vx ys)
inductive D0(c:Cx)(X:Value→St→Prop)(Q:V→St→Prop)(x:Str)(px:Pos)(kx vx:Expr)(ifs:List Expr)(ce env:List (Str×Slot))(items:List V)(σ:St):Prop
 |mk (hz:items.length≤sizeLine) (he:σ.env=env) (CI:List V→List (Str×V)→List (Addr×OV)→Prop) (h0:CI items [] σ.own) (ht:yB c (.Name x px) kx vx ifs ce CI (KX X env)) (hf:∀ys own,CI [] ys own→∀D,qH c D→Q (.val (.ref D)) ⟨env,(D,.dct ys)::own⟩):D0 c X Q x px kx vx ifs ce env items σ
theorem DP{kx vx iter:Expr}{x:Str}{px:Pos}{ifs:List Expr}{scope:Scope}{pos:Pos}{ce:List (Str×Slot)}{Q:V→St→Prop}(hce:c0 σ.env scope.names ce)
  (h:mH c iter σ X (D0 c X Q x px kx vx ifs ce σ.env))
  (hk:autoParam (scope.kind= .function) c8) (hn:autoParam ((scope.names.map (·.1)).Nodup) mV) (hd:autoParam (∀p∈scope.names,(p.1==("__debug__" :Str))=false) mV) (hs:autoParam (foldedSetIterable iter c.env=pure) c8):
  WE c (.DictComp kx vx [⟨.Name x px,iter,ifs,0⟩] scope pos) σ X Q:=by
 intro B s Φ Ψ hc hΦ hΨ
 rw[arm_eval_DictComp]
 refine Bo (target:= .Name x px) hk hn hd (congrFun hs) hce ?_ (fun _ _=>rfl) hc hΨ
 intro B₀ s₀ Φ' Ψ' hc hΦ' hΨ'
 refine h B₀ s₀ Φ' Ψ' hc (fun I items fp P Sx σ₁ B₁ s₁ hq it gI hle hc₁=>hΦ' I items fp P Sx σ₁ B₁ s₁ ?_ it gI hle hc₁) hΨ'
 obtain⟨h1,h2,CI,h3,h4,h5⟩:=hq
 exact⟨h1,h2,CI,h3,h4 CI fun _ _ _ h=>h,fun ys own B' s' D C hci hle' hn hc' gC h' hsb=>hΦ _ _ _ B' _ (h5 ys own hci D hn) .val hle' (hc'.kept (tk:=s'.toks) fun a o e g=> .of_get ((hsb.2 a fun q=>g (q▸gC)).trans e))⟩
theorem Fb{e:Expr}{Q:List V→St→Prop}(h:WE c e σ X fun x σ₁=>∃l,x= .dct l∧Q (l.map fun p=> .str p.1) σ₁):mH c e σ X Q:=by
 intro B s Φ Ψ hc hΦ hΨ
 refine h B s _ _ hc (fun v x σ₁ B₁ s₁ hq hr hle hc₁=>?_) hΨ
 refine cI hq fun l z0=>?_
 clear hq
 refine aG z0 fun z2 hq=>?_
 clear z0
 subst z2
 obtain⟨a,o,kvs,hz,h1,h2,h3⟩:=hr.inv
 refine E2x5.e (id h2) fun es ep he hda hks hpr hnd=>?_
 have hat:s₁.heap.DictAt (PySem.strKind c.g.prog c.g.w) a kvs ep:=⟨o,es,hc₁.base.frz _ _ h1,he,hda,hks,hpr,hnd⟩
 have hne:a≠s₁.heap.objs.size:=fun q=>by rw[q] at h1;rw[hc₁.base.fresh] at h1;cases h1
 refine wpAny_pyIter_dict hz hat ?_
 have gI:=hc₁.freshGhost
 have it:qX c.g B₁ s₁.heap.objs.size (l.map fun p=>V.str p.1) 0 (s₁.heap.push {cls:= .type "dict_keyiterator",data:= .fields #[.ref a,.int 0 0,.int kvs.length 0,.int ep 0]}) [s₁.heap.objs.size,a]
   (fun i v=>∃k x,kvs[i]? =some (k,x)∧(PySem.strKind c.g.prog c.g.w).is k v=true) (fun i h=>h.IsKeyIter s₁.heap.objs.size a i kvs.length ep∧h.DictAt (PySem.strKind c.g.prog c.g.w) a kvs ep):=by
  refine⟨fun A hA=>?_,fun i v p=>?_,⟨⟨_,Heap.get?_push_size _ rfl,rfl,rfl⟩,⟨o,es,Heap.get?_push_of_some _ (hc₁.base.frz _ _ h1),he,hda,hks,hpr,hnd⟩⟩,fun b hb=>?_,fun i h st=>?_⟩
  ·have w:=Walks.dictKeys (prog:=c.g.prog) (w:=c.g.w) (knd:=PySem.strKind c.g.prog c.g.w) hA s₁.heap.objs.size a hne kvs ep
   rw[List.length_map,←h3.length]
   exact w
  ·refine cI p fun k z0=>?_
   clear p
   refine aH z0 fun y e1 e2=>?_
   clear z0
   refine cI (Value.isStrOf_shape (show Value.isStrOf k v=true from e2)) fun t z0=>?_
   subst z0
   refine⟨.str k,?_,.str⟩
   have:(kvs.map (·.1))[i]? =some k:=by rw[List.getElem?_map,e1];rfl
   rw[h3.keys,List.getElem?_map] at this
   refine aH (Option.map_eq_some_iff.mp this) fun q eq z2=>?_
   subst z2
   rw[List.getElem?_map,eq];rfl
  ·rcases List.mem_cons.mp hb with rfl|hb
   ·exact .inl rfl
   ·rw[List.mem_singleton.mp hb];exact .inr ⟨o,h1⟩
  ·refine aG st fun z0 _=>?_
   clear st
   refine dT z0 fun o' q1 q2 q3=>?_
   clear z0
   exact⟨o',_,q1,q2,by decide,fun v q=>by rw[q3] at q;cases q⟩
 exact hΦ _ _ _ _ _ _ B₁ _ hq it gI hle (hc₁.push _ _)
end
noncomputable def E3(s:Stmt):Option (Arguments×List Stmt×Scope):=Stmt.casesOn (motive_2:=fun _=>Option (Arguments×List Stmt×Scope)) s (fun _ a b _ _ _ s _ _ _=>some (a,b,s)) (fun _ _ _ _ _ _ _ _ _ _=>none) (fun _ _ _ _ _ _ _ _ _ _ _=>none) (fun _ _=>none) (fun _ _=>none) (fun _ _ _=>none) (fun _ _ _ _ _ _ _=>none) (fun _ _ _ _=>none) (fun _ _ _ _ _=>none) (fun _ _ _ _ _=>none) (fun _ _ _ _ _=>none) (fun _ _ _ _=>none) (fun _ _ _ _=>none) (fun _ _ _=>none) (fun _ _ _=>none) (fun _ _ _=>none) (fun _ _ _=>none) (fun _ _ _ _ _=>none) (fun _ _ _ _ _=>none) (fun _ _ _=>none) (fun _ _=>none) (fun _ _ _ _=>none) (fun _ _=>none) (fun _ _=>none) (fun _ _=>none) (fun _=>none) (fun _=>none) (fun _=>none)
noncomputable def FO(s:Stmt):Option (List Stmt):=Stmt.casesOn (motive_2:=fun _=>Option (List Stmt)) s (fun _ _ _ _ _ _ _ _ _ _=>none) (fun _ _ _ _ _ _ _ _ _ _=>none) (fun _ _ _ b _ _ _ _ _ _ _=>some b) (fun _ _=>none) (fun _ _=>none) (fun _ _ _=>none) (fun _ _ _ _ _ _ _=>none) (fun _ _ _ _=>none) (fun _ _ _ _ _=>none) (fun _ _ _ _ _=>none) (fun _ _ _ _ _=>none) (fun _ _ _ _=>none) (fun _ _ _ _=>none) (fun _ _ _=>none) (fun _ _ _=>none) (fun _ _ _=>none) (fun _ _ _=>none) (fun _ _ _ _ _=>none) (fun _ _ _ _ _=>none) (fun _ _ _=>none) (fun _ _=>none) (fun _ _ _ _=>none) (fun _ _=>none) (fun _ _=>none) (fun _ _=>none) (fun _=>none) (fun _=>none) (fun _=>none)
noncomputable def Cq(k:Nat):Option (Arguments×List Stmt×Scope):=(PySem.Challenge.pw_nn0227_01.main.body[k]?).bind E3
noncomputable def oR(k:Nat):List Stmt:=((Cq k).map (·.2.1)).getD []
noncomputable def uZ(k:Nat):Arguments:=((Cq k).map (·.1)).getD default
noncomputable def kH(k:Nat):Scope:=((Cq k).map (·.2.2)).getD default
structure pG(g:Gx)(name:Str)(k:Nat)(f:Addr)(fd:FuncData):Prop where
 gl:Gl g name (.val (.ref f))
 fn:Bv g f fd (oR k)
 ps:fd.params=uZ k
 sc:fd.scope=kH k
 kd:fd.kwdefaults= .none
noncomputable def F2(sc:Scope)(ps:List Str):Bool:=decide ps.Nodup&&ps.all fun p=>decide ((p,NameKind.local)∈sc.names∨(p,NameKind.cell)∈sc.names)
theorem F1{sc:Scope}{ps:List Str}(h:F2 sc ps=true):ps.Nodup:=of_decide_eq_true (Bool.and_eq_true_iff.mp h).1
theorem F0{sc:Scope}{ps:List Str}(h:F2 sc ps=true)(p:Str)(hp:p∈ps):(p,NameKind.local)∈sc.names∨(p,NameKind.cell)∈sc.names:=of_decide_eq_true (List.all_eq_true.mp (Bool.and_eq_true_iff.mp h).2 p hp)
noncomputable def CS(fd:FuncData)(k:Nat):FuncData:={fd with params:=uZ k,defaults:= .none,kwdefaults:= .none}
theorem Bq{fd:FuncData}{k:Nat}(h1:fd.params=uZ k)(h2:fd.defaults= .none)(h3:fd.kwdefaults= .none):fd=CS fd k:=by cases fd;cases h1;cases h2;cases h3;rfl
noncomputable def Df(ps:List Str)(P:List Value→Prop):Prop:=ps.rec (motive:=fun _=>(List Value→Prop)→Prop) (fun P=>P []) (fun _ _ ih P=>∀v,ih fun vs=>P (v::vs)) P
theorem Df.of{ps:List Str}:∀{P:List Value→Prop},Df ps P→∀vs:List Value,vs.length=ps.length→P vs:=by
 induction ps with
 |nil=>intro P h vs e;rw[List.eq_nil_of_length_eq_zero e];exact h
 |cons p ps ih=>intro P h vs e;cases vs with
  |nil=>cases e
  |cons v vs=>exact ih (h v) vs (Nat.succ.inj e)
theorem aN{g:Gx}{name:Str}{k:Nat}{f:Addr}{fd:FuncData}{ps:List Str}{xs:List V}{own:List (Addr×OV)}{X:XO}{Q:V→List (Addr×OV)→Prop}{n:Nat}(hf:pG g name k f fd)(hdf:fd.defaults= .none)
  (hbind:∀fd:FuncData,Df ps fun vs=>bindArgs (CS fd k) ⟨vs,[]⟩=pure (ps.zip vs)) (ok:(F2 (kH k) ps&&ps.length==xs.length)=true)
  (h:∀c:Cx,∀R:V→List (Addr×OV)→Prop,(∀v o,Q v o→R v o)→(c.of g).lvl=n→kP (c.of g)→(c.of g).env.code=fd.code→(c.of g).pins=[]→WX (c.of g) (oR k) ⟨j8 (ps.zip xs) (kH k).names,own⟩ (FX X) (FQ R)):aS g (n+1) (.val (.ref f)) xs own X Q:=
 have o:=Bool.and_eq_true_iff.mp ok
 have hl:ps.length=xs.length:=beq_iff_eq.mp o.2
 s8 hf.fn (fun B s vs _ _ hr=>⟨vs,.of_eq (by rw[Bq hf.ps hdf hf.kd];exact(hbind fd).of vs (hr.length.trans hl.symm)),hr⟩) (F1 o.1) hl (by rw[hf.sc];exact F0 o.1) (by rw[hf.sc]) h
theorem V.int_inj{a b:Int}(h:V.int a=V.int b):a=b:=by cases h;rfl
theorem Aj{Q:Fl→St→Prop}{σ:St}(h:Q .next σ):Hn Q .none σ:=⟨rfl,h⟩
theorem lv{a n b:Nat}(h:a=n)(hb:autoParam (Nat.ble b n=true) c8):b≤a:=h▸Nat.le_of_ble_eq_true hb
theorem bindC{fd:FuncData}{A:Arguments}{vs:Args}(h1:fd.params=A)(h2:fd.defaults= .none)(h3:fd.kwdefaults= .none):bindArgs fd vs=bindArgs {fd with params:=A,defaults:= .none,kwdefaults:= .none} vs:=by cases fd;simp only at h1 h2 h3;subst h1 h2 h3;rfl
theorem H7{vs:List Value}(h:vs.length=0):vs=[]:=List.length_eq_zero_iff.mp h
theorem WT.join{α β:Type}{c:Cx}{R:Fz→β→α→Prop}{t:Sem α}{σ:St}{X:Value→St→Prop}{Q:β→St→Prop}(f:β)(h1:WT c R t σ X fun v σ' =>v=f∧σ' =σ)(h2:Q f σ):WT c R t σ X Q:=
 h1.mono fun _ _ ⟨e1,e2⟩=>by subst e1 e2;exact h2
section
variable {c:Cx}{σ:St}{X:Value→St→Prop}
theorem WE.join{e:Expr}{Q:V→St→Prop}(f:V)(h1:WE c e σ X fun v σ' =>v=f∧σ' =σ)(h2:Q f σ):WE c e σ X Q:=WT.join f h1 h2
theorem WC.join{e:Expr}{Q:Bool→St→Prop}(f:Bool)(h1:WC c e σ X fun v σ' =>v=f∧σ' =σ)(h2:Q f σ):WC c e σ X Q:=WT.join f h1 h2
theorem WE.frz{e:Expr}{Q:V→St→Prop}(h:WE c e σ X fun v σ₁=>sZ (fun a ov Y v' rest env' =>qH c a) (fun a ov Y v' rest env' =>yE a ov σ₁.own rest) (fun a ov Y v' rest env' =>lH ov Y) (fun a ov Y v' rest env' =>eM a Y σ₁.env env') (fun a ov Y v' rest env' =>VS a Y v v') (fun a ov Y v' rest env' =>Q v' ⟨env',rest⟩)):WE c e σ X Q:=WV.frz h
theorem WE.frz0{e:Expr}{Q:V→St→Prop}{a:Addr}{ov:OV}{Y:V}{rest:List (Addr×OV)}{env' :List (Str×Slot)}(hn:qH c a)(hd:yE a ov σ.own rest)(hf:lH ov Y)(hs:eM a Y σ.env env')(h:WE c e ⟨env',rest⟩ X Q):WE c e σ X Q:=WT.frz hn hd hf hs h
theorem W1.to{st:Stmt}{Q:Fl→St→Prop}(σ' :St)(h1:W1 c st σ X fun fl s=>fl= .next∧s=σ')(h2:Q .next σ'):W1 c st σ X Q:=
 WT.mono h1 fun _ _ ⟨e1,e2⟩=>by subst e1 e2;exact h2
theorem Dh{st:Stmt}{r:List Stmt}{Q:Fl→St→Prop}(σ' :St)(h1:W1 c st σ X fun fl s=>fl= .next∧s=σ')(h2:WX c r σ' X Q):WX c (st::r) σ X Q:=aU (W1.to σ' h1 h2)
noncomputable def tU(a b x:Str):Bool:=[a,b].any (·==x)
theorem cP{a b x:Str}{Q:V→St→Prop}(h:Q (.bool (tU a b x)) σ):iX c (compareOp .In) (.str x) (.tup [.str a,.str b]) σ X Q:=C2 (ys:=[a,b]) h
theorem cU{p q:Prop}{b:Bool}(hb:b=true)(h:p):if b=true then p else q:=by rw[if_pos hb];exact h
theorem bK{p q:Prop}{b:Bool}(hb:b=false)(h:q):if b=true then p else q:=by rw[if_neg (by rw[hb];exact Bool.false_ne_true)];exact h
noncomputable def DX(c:Cx)(test:Expr)(body orelse:List Stmt)(X:Value→St→Prop)(Q:Fl→St→Prop):Nat→St→Prop
 |0,_=>False
 |n+1,σ=>WC c test σ X (Hi c X Q (DX c test body orelse X Q n) body orelse)
theorem wI{test:Expr}{body orelse:List Stmt}{p:Pos}{Q:Fl→St→Prop}(n:Nat)(h:DX c test body orelse X Q n σ):W1 c (.While test body orelse p) σ X Q:=by
 refine Ab (DX c test body orelse X Q) n h fun J hJ k σ₁ hk=>?_
 cases k with
 |zero=>exact hk.elim
 |succ k=>
  refine WT.mono hk fun b σ₂ hb=>?_
  cases b with
  |false=>exact hb
  |true=>
   refine WT.mono hb fun fl σ₃ hf=>?_
   cases fl with
   |next=>exact hJ _ _ ⟨k,Nat.lt_succ_self k,hf⟩
   |cont=>exact hJ _ _ ⟨k,Nat.lt_succ_self k,hf⟩
   |brk=>exact hf
   |ret v=>exact hf
end
theorem B3{α:Type}{c:Cx}{X:Value→St→Prop}{Q:V→St→Prop}{target elt:Expr}{ifs:List Expr}{ce env:List (Str×Slot)}{o:List (Addr×OV)}{items R:List V}(ms:List α)(f h:α→V)(hi:items=ms.map f)(hR:ms.map h=R)(hz:ms.length≤sizeLine)
  (ht:∀m∈ms,∀(J:List V→List (Addr×OV)→Prop) ys,J (ys++[h m]) o→∀e ps b,BE (c.at e ps b) target (f m) ⟨ce,o⟩ (KX X env) (Ho (c.at e ps b) (KX X env) J ifs elt ys))
  (hf:Q (.lst R) ⟨env,o⟩):Ay c X Q target elt ifs ce env items ⟨env,o⟩:=by
 subst hi
 refine⟨by rw[List.length_map];exact hz,rfl,fun r ys own=>cW (fun a b=>ms=a++b) (fun _ b=>r=b.map f) (fun a _=>ys=a.map h) (fun _ _=>own=o),⟨[],ms,rfl,rfl,rfl,rfl⟩,fun J hJ x r ys own z e ps b=>?_,fun ys own z=>?_⟩
 ·obtain⟨a,b,h1,h2,rfl,rfl⟩:=z
  cases b with
  |nil=>cases h2
  |cons m b=>
   cases h2
   exact ht m (by rw[h1];exact List.mem_append_right _ (List.mem_cons_self ..)) (J _) _ (hJ _ _ _ ⟨a++[m],b,by rw[h1,List.append_assoc];rfl,rfl,by rw[List.map_append];rfl,rfl⟩) e ps _
 ·obtain⟨a,b,h1,h2,rfl,rfl⟩:=z
  cases b with
  |cons m b=>cases h2
  |nil=>rw[List.append_nil] at h1;rw[←h1,hR];exact hf
theorem G0{α:Type}{c:Cx}{X:Value→St→Prop}{Q:V→St→Prop}{target elt:Expr}{ifs:List Expr}{ce env:List (Str×Slot)}{o:List (Addr×OV)}{items R:List V}(ms:List α)(p:α→Bool)(f h:α→V)(hi:items=ms.map f)(hR:(ms.filter p).map h=R)(hz:ms.length≤sizeLine)
  (ht:∀m∈ms,∀(J:List V→List (Addr×OV)→Prop) ys,J (if p m=true then ys++[h m] else ys) o→∀e ps b,BE (c.at e ps b) target (f m) ⟨ce,o⟩ (KX X env) (Ho (c.at e ps b) (KX X env) J ifs elt ys))
  (hf:Q (.lst R) ⟨env,o⟩):Ay c X Q target elt ifs ce env items ⟨env,o⟩:=by
 subst hi
 refine⟨by rw[List.length_map];exact hz,rfl,fun r ys own=>cW (fun a b=>ms=a++b) (fun _ b=>r=b.map f) (fun a _=>ys=(a.filter p).map h) (fun _ _=>own=o),⟨[],ms,rfl,rfl,rfl,rfl⟩,fun J hJ x r ys own z e ps b=>?_,fun ys own z=>?_⟩
 ·obtain⟨a,b,h1,h2,rfl,rfl⟩:=z
  cases b with
  |nil=>cases h2
  |cons m b=>
   cases h2
   refine ht m (by rw[h1];exact List.mem_append_right _ (List.mem_cons_self ..)) (J _) _ (hJ _ _ _ ⟨a++[m],b,by rw[h1,List.append_assoc];rfl,rfl,?_,rfl⟩) e ps _
   cases q:p m<;>simp[q]
 ·obtain⟨a,b,h1,h2,rfl,rfl⟩:=z
  cases b with
  |cons m b=>cases h2
  |nil=>rw[List.append_nil] at h1;rw[←h1,hR];exact hf
theorem tV(x:Array Nat):∀(k:Nat) (acc:Array Nat),((List.replicate k x).foldl (·++·) acc).size=acc.size+k*x.size
 |0,acc=>by simp
 |k+1,acc=>by rw[List.replicate_succ,List.foldl_cons,tV x k,Array.size_append,Nat.succ_mul];exact d9 [_,_,_] [] (.Eq (.a (.a .w .x) .y) (.a .w (.a .y .x))) qq
theorem uQ(x:Str)(n:Int):(Txt.mul x n).length≤x.length*n.toNat:=by
 unfold Txt.mul
 split
 ·exact Nat.zero_le _
 ·rename_i h
  split
  ·rename_i h2
   have:1≤n.toNat:=by exact aI [_] [_] (.nlt .w (.n 1)) 1 (.eq (.c .w) .w) (.negSucc 0) (.Le (.n 1) .w) 0 qq h (Int.toNat_of_nonneg (aB [] [_] (.nlt .w (.n 1)) 1 (.le (.n 0) .w) 0 qq h))
   exact Nat.le_mul_of_pos_right _ this
  ·show((List.replicate n.toNat x.cps).foldl (·++·) #[]).size≤_
   rw[tV]
   show 0+n.toNat*x.length≤_
   rw[Nat.zero_add,Nat.mul_comm];exact Nat.le_refl _
theorem fK{x:Str}{n:Int}(hx:x.length≤8)(hn:n≤1048576)(h0: -1048576≤n):MulOk x n:=by
 refine⟨by simp only[Bool.or_eq_false_iff,decide_eq_false_iff_not];exact⟨aB [] [_] (.le (.g (.n 1048576)) .w) 1 (.nlt .w (.g (.n 9223372036854775808))) 0 qq h0,aB [] [_] (.le .w (.n 1048576)) 1 (.nle (.n 9223372036854775808) .w) 0 qq hn⟩,fun h1 _=>?_,fun h1 _=>?_⟩
 ·have h2:(x.length:Int)*n≤2^63-1:=by
   have a:(x.length:Int)≤8:=by exact aB [_] [] (.Le .w (.n 8)) 1 (.le (.c .w) (.n 8)) 0 qq hx
   have b:(x.length:Int)*n≤8*1048576:=Int.mul_le_mul a hn (by exact aB [] [_] (.nlt .w (.n 1)) 1 (.le (.n 0) .w) 0 qq h1) (by exact of_decide_eq_true rfl)
   exact aB [] [_] (.le .w (.m (.n 8) (.n 1048576))) 1 (.le .w (.s (.n 9223372036854775808) (.n 1))) 0 qq b
  have:=(Int.le_ediv_iff_mul_le (by exact aB [] [_] (.nlt .w (.n 1)) 1 (.lt (.n 0) .w) 0 qq h1:0<n)).mpr h2
  exact aB [_] [_] (.le (.c .w) .w) 1 (.nlt .w (.c .w)) 0 qq this
 ·have:x.length*n.toNat≤8*1048576:=Nat.mul_le_mul hx (by exact aI [_] [_] (.le .w (.n 1048576)) 1 (.eq (.c .w) .w) 1 (.Le .w (.n 1048576)) 0 qq hn (Int.toNat_of_nonneg (aB [] [_] (.nlt .w (.n 1)) 1 (.le (.n 0) .w) 0 qq h1)))
  simp only[Builtin.Str.tooLong,decide_eq_false_iff_not]
  have e:sizeLine=16777216:=rfl
  exact aI [_,_] [] (.Le .x (.m 8 (.n 1048576))) 2 (.Eq .w (.n 16777216)) (.negSucc 0) (.Nlt .w .x) 1 qq this e
theorem eR{n w:Int}(h0:0≤n)(hw:1≤w):0≤n.fdiv w∧n.fdiv w≤n∧0≤n.fmod w∧n.fmod w≤n∧n.fmod w<w:=by
 rw[Int.fdiv_eq_ediv_of_nonneg _ (by exact aB [] [_] (.le (.n 1) .w) 1 (.le (.n 0) .w) 0 qq hw),Int.fmod_eq_emod_of_nonneg _ (by exact aB [] [_] (.le (.n 1) .w) 1 (.le (.n 0) .w) 0 qq hw)]
 refine⟨Int.ediv_nonneg h0 (by exact aB [] [_] (.le (.n 1) .w) 1 (.le (.n 0) .w) 0 qq hw),Int.ediv_le_self _ h0,Int.emod_nonneg _ (by(clear h0;lia -abstractProof)),?_,Int.emod_lt_of_pos _ (by exact aB [] [_] (.le (.n 1) .w) 1 (.lt (.n 0) .w) 0 qq hw)⟩
 have:=Int.emod_lt_of_pos n (by exact aB [] [_] (.le (.n 1) .w) 1 (.lt (.n 0) .w) 0 qq hw:0<w)
 by_cases h:n<w
 ·rw[Int.emod_eq_of_lt h0 h];exact Int.le_refl _
 ·exact aI [] [_,_,_] (.lt .w .y) 1 (.nlt .x .y) 1 (.le .w .x) 0 qq this h
noncomputable def c9:List (Int×Str):=[(1000, "M"),(900, "CM"),(500, "D"),(400, "CD"),(100, "C"),(90, "XC"),(50, "L"),(40, "XL"),(10, "X"),(9, "IX"),(5, "V"),(4, "IV"),(1, "I")]
noncomputable def rG(l:List (Int×Str)):List V:=l.map fun p=> .tup [.int p.1,.str p.2]
noncomputable def j6:List (Int×Str)→Int→Str→Str
 | [],_,f=>f
 |(w,x)::r,n,f=>j6 r (n.fmod w) (f++Txt.mul x (n.fdiv w))
theorem AI{q1 f}:j6 [] q1 f=f:=rfl
theorem tF{w x r n f}:j6 ((w,x)::r) n f=j6 r (n.fmod w) (f++Txt.mul x (n.fdiv w)):=rfl
noncomputable def bV(n:Int):Str:=j6 c9 n ""
theorem iL:∀p∈c9,1≤p.1∧p.2.length≤2∧p.1≤1000:=by decide
noncomputable def GP(x0 x1 x2 x3 x4:Option V):List (Str×Slot):=[("number",.loc x0),("found",.loc x1),("left",.loc x2),("worth",.loc x3),("signs",.loc x4),("ROMAN",.glob)]
theorem qV{g:Gx}{f:Addr}{fd:FuncData}(hf:pG g "roman" 40 f fd)(hdf:fd.defaults= .none)(hR:Gl g "ROMAN" (.tup (rG c9))){n:Int}(h0:0≤n)(h1:n≤1000000000):
  aS g 1 (.val (.ref f)) [.int n] [] cK (fun v own=>v= .str (bV n)∧own=[]):=by
 refine aN (ps:=["number"]) hf hdf (fun _ _=>rfl) rfl fun c RR hRR hl hcel hcode hpins=>?_
 ·refine(?_:WX _ _ ⟨GP (some _) none none none none,_⟩ _ _)
  refine aM ?_;refine aE ?_;refine d8 1 rfl ?_
  refine aM ?_;refine a9 0 rfl ?_;refine d8 2 rfl ?_
  refine iJ ?_ ?_ ?_ ?_
  ·exact fun items σ=>sZ (fun pre r left (found:Str) w x=>items=rG r) (fun pre r left (found:Str) w x=>pre++r=c9) (fun pre r left (found:Str) w x=>(pre=[]∧found=("" :Str)∧left=n∨left<1000∧found.length+2*left≤3002000)) (fun pre r left (found:Str) w x=>σ=⟨GP (some (.int n)) (some (.str found)) (some (.int left)) w x,[]⟩) (fun pre r left (found:Str) w x=>j6 r left found=bV n) (fun pre r left (found:Str) w x=>0≤left)
  ·exact bH (bG 5 rfl hR ⟨_,.tup,[],c9,n, "",none,none,rfl,rfl,.inl ⟨rfl,rfl,rfl⟩,rfl,rfl,h0⟩)
  ·intro JJ1 hJJ1 v r σ₁ z0
   refine sZ.e z0 fun pre r' left found w x e hpre hlen z1 e2 e3=>?_
   clear z0
   subst z1
   intro ps
   cases r' with
   |nil=>cases e
   |cons p r' =>
    cases e
    refine eT (iL p (by rw[←hpre];simp)) fun m1 m2 m3=>?_
    refine j4 (eR e3 m1) fun d1 d2 d3 d4 d5=>?_
    have hd:left.fdiv p.1*p.1+left.fmod p.1=left:=by
     have:=Int.mul_fdiv_add_fmod left p.1
     rw[Int.mul_comm];exact this
    have key:left.fdiv p.1≤1000000∧left.fmod p.1<1000∧found.length+2*(left.fdiv p.1)+2*left.fmod p.1≤3002000:=by
     rcases hlen with⟨q1,q2,q3⟩|⟨q1,q2⟩
     ·have hp:p=((1000:Int),("M" :Str)):=by
       rw[q1,List.nil_append,c9] at hpre
       exact(List.cons.inj hpre).1
      subst q2 q3
      have z:((("" :Str).length:Nat):Int)=0:=rfl
      rw[hp] at d1 d2 d3 d4 d5 hd ⊢
      simp only at d1 d2 d3 d4 d5 hd ⊢
      exact⟨eQ [] [_,_,_] (.le (.n 0) .x) 1 (.eq (.a (.m .w (.n 1000)) .x) .y) 1 (.le .y (.n 1000000000)) 1 (.le .w (.n 1000000)) 999 qq d3 hd h1,⟨d5,uT [_] [_,_,_] (.lt .x (.n 1000)) 999 (.eq (.a (.m .w (.n 1000)) .x) .y) 1 (.le .y (.n 1000000000)) 1 (.eq (.c .w) (.n 0)) 500 (.le (.a (.a (.c .w) (.m (.n 2) .w)) (.m (.n 2) .x)) (.n 3002000)) 499 qq d5 hd h1 z⟩⟩
     ·have:left.fdiv p.1*1≤left.fdiv p.1*p.1:=Int.mul_le_mul_of_nonneg_left m1 d1
      exact⟨F7 [_] [_,_,_,_] (.le (.n 0) .x) 3000002 (.eq (.a .y .x) .z) 3000002 (.lt .z (.n 1000)) 1002000 (.le (.a (.c .w) (.m (.n 2) .z)) (.n 3002000)) 999001 (.le (.m .w (.n 1)) .y) 3000002 (.le .w (.n 1000000)) 3000001 qq d3 hd q1 q2 this,⟨aI [] [_,_] (.le .w .x) 1 (.lt .x (.n 1000)) 1 (.lt .w (.n 1000)) 0 qq d4 q1,eQ [_] [_,_,_,_] (.eq (.a .y .x) .z) 2 (.le (.a (.c .w) (.m (.n 2) .z)) (.n 3002000)) 1 (.le (.m .w (.n 1)) .y) 2 (.le (.a (.a (.c .w) (.m (.n 2) .w)) (.m (.n 2) .x)) (.n 3002000)) 0 qq hd q2 this⟩⟩
    refine eT key fun k1 k2 k3=>?_
    clear key
    refine gW (.cons (.cons .nil)) (.cons (aR 3 rfl) (.cons (aR 4 rfl) .nil)) ?_
    refine aM ?_;refine aD ?_;refine a9 1 rfl ?_;refine aD ?_;refine a9 4 rfl ?_;refine aD ?_;refine a9 2 rfl ?_;refine a9 3 rfl ?_
    refine cL (by(clear k3 k2 k1 hd d5 d4 d3 d2 d1 m2 e2 hpre e3 hlen hJJ1 hR hf hpins hcode hcel hl hRR h1 h0 hdf;lia -abstractProof)) (PyProof.noPylong_small (by exact aI [_] [_] (.le .w (.n 1000)) 1 (.eq (.c .w) .w) 1 (.Lt .w (.n 1073741824)) 0 qq m3 (Int.natAbs_of_nonneg (aI [] [_,_] (.le (.n 0) .x) 1 (.lt .x .w) 1 (.le (.n 0) .w) 0 qq d3 d5)))) (iH ?_ (fK (by exact aB [_] [] (.Le .w (.n 2)) 1 (.Le .w (.n 8)) 0 qq m2) (by exact aB [] [_] (.le .w (.n 1000000)) 1 (.le .w (.n 1048576)) 0 qq k1) (by exact aB [] [_] (.le (.n 0) .w) 1 (.le (.g (.n 1048576)) .w) 0 qq d1)))
    have hml:(Txt.mul p.2 (left.fdiv p.1)).length≤2*(left.fdiv p.1).toNat:=Nat.le_trans (uQ p.2 (left.fdiv p.1)) (Nat.mul_le_mul_right _ m2)
    refine lP ?_ (show _≤16777216 from ?_)
    rotate_left
    ·exact uT [_,_,_] [_,_] (.le (.n 0) .w) 2 (.le (.a (.a (.c .w) (.m (.n 2) .x)) (.m (.n 2) .w)) (.n 3002000)) 1 (.Le .x (.m 2 .y)) 1 (.eq (.c .y) .x) 2 (.Le (.a .w .x) (.n 16777216)) 0 qq d3 k3 hml (Int.toNat_of_nonneg (d1))
    refine d8 1 rfl ?_;refine aM ?_;refine aD ?_;refine a9 2 rfl ?_;refine a9 3 rfl ?_
    refine bW (show p.1≠0 by(clear hml k3 k2 k1 hd d5 d4 d3 d2 d1 m2 e2 hpre e3 hlen hJJ1 hR hf hpins hcode hcel hl hRR h1 h0 hdf;lia -abstractProof)) ?_
    refine d8 2 rfl ?_;refine aF ?_
    refine hJJ1 _ _ ?_;exact⟨pre++[p],r',left.fmod p.1,_,_,_,rfl,by rw[List.append_assoc];exact hpre,.inr ⟨k2,by rw[strLen_append];exact eQ [_,_,_] [_,_] (.le (.a (.a (.c .w) (.m (.n 2) .x)) (.m (.n 2) .w)) (.n 3002000)) 1 (.Le .x (.m 2 .y)) 1 (.eq (.c .y) .x) 2 (.le (.a (.c (.a .w .x)) (.m (.n 2) .w)) (.n 3002000)) 0 qq k3 hml (Int.toNat_of_nonneg (d1))⟩,rfl,e2,d3⟩
  ·intro σ₁ z0
   refine sZ.e z0 fun pre r' left found w x e hpre hlen z1 e2 e3=>?_
   clear z0
   subst z1
   cases r' with
   |cons p r' =>cases e
   |nil=>
    refine aF ?_;refine aO ?_;refine a9 1 rfl ?_
    refine hRR _ _ ?_;exact⟨by rw[←e2];rfl,rfl⟩
theorem cT.none:∀{o:List (Addr×OV)},cT o [] o
 | []=> .nil
 |_::_=> .keep cT.none
theorem cT.all:∀{o:List (Addr×OV)},cT o o []
 | []=> .nil
 |_::_=> .take cT.all
section
variable {c:Cx}{σ:St}{X:Value→St→Prop}{Q:V→St→Prop}
noncomputable abbrev Pure(g:Gx)(n:Nat)(f:Addr)(xs:List V)(r:V):Prop:=aS g n (.val (.ref f)) xs [] cK (fun v own=>v=r∧own=[])
inductive Ek(c:Cx)(f:Addr)(Q:V→St→Prop)(xs:List V)(σ:St):Prop
 |mk (n:Nat) (r:V) (hn:n≤c.lvl) (hp:Pure c.g n f xs r) (h:Q r σ):Ek c f Q xs σ
theorem aX{name:Str}{k:Nat}{f:Addr}{fd:FuncData}{np p:Pos}{args:List Expr}(hf:pG c.g name k f fd)(i:Nat)(hg:qE i σ.env=some name)(h:hO c p args σ X (Ek c f Q))
  (hpl:autoParam (args.all fR=true) c8)
  (he:autoParam (eval (.Call (.Name name np) args [] p) c.env=(do let f ←eval (.Name name np) c.env;callWith p f [] (backTo p (starEach args c.env)) [])) c8):WE c (.Call (.Name name np) args [] p) σ X Q:=by
 refine e_call (bG i hg hf.gl ⟨vX.fn hf.fn,h.mono fun xs σ₂ hk=>?_⟩) hpl he
 obtain⟨n,r,hn,hp,hq⟩:=hk
 refine pS (XC:=cK) cT.none hn hp (fun x own' _ he=>?_) fun _ _ hx=>hx.elim
 refine aG he fun z0 z1=>?_
 clear he
 subst z0
 subst z1
 exact hq
inductive eW(c:Cx)(X:Value→St→Prop)(f:Addr)(Q:V→St→Prop)(xs:List V)(σ:St):Prop
 |mk (n:Nat) (lent rest:List (Addr×OV)) (XC:XO) (QC:V→List (Addr×OV)→Prop) (hn:n≤c.lvl) (hl:cT σ.own lent rest) (hw:aS c.g n (.val (.ref f)) xs lent XC QC)
   (hq:∀x own',(∀p∈own',p.1∈lent.map (·.1)∨qH c p.1)→QC x own'→Q x ⟨σ.env,own' ++rest⟩) (hx:∀cls own',XC cls own'→X cls ⟨σ.env,own' ++rest⟩):eW c X f Q xs σ
theorem eW.det{f:Addr}{Q:V→St→Prop}{xs:List V}{lent rest o:List (Addr×OV)}{r:V}(n:Nat)(hn:n≤c.lvl)(hl:cT σ.own lent rest)(hw:aS c.g n (.val (.ref f)) xs lent cK fun v own=>v=r∧own=o)(hq:Q r ⟨σ.env,o++rest⟩):eW c X f Q xs σ:=
 ⟨n,lent,rest,_,_,hn,hl,hw,fun _ _ _ h=>by obtain⟨rfl,rfl⟩:=h;exact hq,fun _ _ h=>h.elim⟩
theorem gL{f:V}{Q:V→St→Prop}{n:Nat}{xs:List V}{lent rest o:List (Addr×OV)}{r:V}(hl:cT σ.own lent rest)(hn:n≤c.lvl)(hw:aS c.g n f xs lent cK fun v own=>v=r∧own=o)(hq:Q r ⟨σ.env,o++rest⟩):WK c f xs σ X Q:=
 pS hl hn hw (fun _ _ _ h=>by obtain⟨rfl,rfl⟩:=h;exact hq) fun _ _ h=>h.elim
theorem bM{name:Str}{k:Nat}{f:Addr}{fd:FuncData}{np p:Pos}{args:List Expr}(hf:pG c.g name k f fd)(i:Nat)(hg:qE i σ.env=some name)
  (h:hO c p args σ X (eW c X f Q))
  (hpl:autoParam (args.all fR=true) c8)
  (he:autoParam (eval (.Call (.Name name np) args [] p) c.env=(do let f ←eval (.Name name np) c.env;callWith p f [] (backTo p (starEach args c.env)) [])) c8):WE c (.Call (.Name name np) args [] p) σ X Q:=by
 refine e_call (bG i hg hf.gl ⟨vX.fn hf.fn,h.mono fun xs σ₂ hk=>?_⟩) hpl he
 obtain⟨n,lent,rest,XC,QC,hn,hl,hw,hq,hx⟩:=hk
 exact pS hl hn hw hq hx
theorem aL{name:Str}{v:Value}{np p:Pos}{args:List Expr}(hb:Gl c.g name (.val v))(hc:vX c.g (.val v))(i:Nat)(hg:qE i σ.env=some name)(h:hO c p args σ X (KK c X Q (.val v)))
  (hpl:autoParam (args.all fR=true) c8)
  (he:autoParam (eval (.Call (.Name name np) args [] p) c.env=(do let f ←eval (.Name name np) c.env;callWith p f [] (backTo p (starEach args c.env)) [])) c8):WE c (.Call (.Name name np) args [] p) σ X Q:=
 e_call (bG i hg hb ⟨hc,h⟩) hpl he
end
theorem bA{i:Int}{n:Nat}(h0:0≤i)(h1:i<n):seqIndex? i n=some i.toNat:=by
 have h:¬i<0:=by exact aB [] [_] (.le (.n 0) .w) 1 (.nlt .w (.n 0)) 0 qq h0
 simp[seqIndex?,h,h0,h1]
theorem kA{i:Int}{n:Nat}(h0:i<0)(h1:0≤i+n):seqIndex? i n=some (i+n).toNat:=by
 have h2:i+n<n:=by exact aB [_] [_] (.lt .w (.n 0)) 1 (.lt (.a .w (.c .w)) (.c .w)) 0 qq h0
 simp[seqIndex?,h0,h1,h2]
noncomputable def eU:Str:= "ABCDEFGHIJKLMNOPQRSTUVWXYZ"
theorem pW:∀k:Nat,k<26→eU.cps[k]? =some (65+k):=by decide
theorem o0:eU.length=26:=by decide
noncomputable def c7(n:Int):Str:=Txt.mul ⟨#[65+((n-1).fmod 26).toNat]⟩ ((n-1).fdiv 26+1)
theorem oX{g:Gx}{f:Addr}{fd:FuncData}(hf:pG g "letters" 42 f fd)(hdf:fd.defaults= .none)(hA:Gl g "ALPHABET" (.str eU)){n:Int}(h0:1≤n)(h1:n≤20000):Pure g 1 f [.int n] (.str (c7 n)):=by
 refine aN (ps:=["number"]) hf hdf (fun _ _=>rfl) rfl fun c RR hRR hl hcel hcode hpins=>?_
 ·refine(?_:WX _ _ ⟨[("number",.loc (some _)),("ALPHABET",.glob)],_⟩ _ _)
  refine j4 (eR (n:=n-1) (w:=26) (by omega) (by omega)) fun d1 d2 d3 d4 d5=>aO (aD (aV (bG 1 rfl (by assumption) (aD (aD (a9 0 rfl (aC ?_)))))))
  refine bN (aC (bW (by decide) ?_))
  refine fG (ch:=65+((n-1).fmod 26).toNat) (by exact aB [] [_] (.le (.n 0) .w) 1 (.le (.g (.n 9223372036854775808)) .w) 0 qq d3) (by exact aB [] [_] (.lt .w (.n 26)) 1 (.lt .w (.n 9223372036854775808)) 0 qq d5) ?_ ?_
  ·rw[bA d3 (by rw[o0];exact aB [] [_] (.lt .w (.n 26)) 1 (.lt .w (.c (.n 26))) 0 qq d5)]
   exact pW ((n-1).fmod 26).toNat (by exact aI [_] [_] (.lt .w (.n 26)) 1 (.eq (.c .w) .w) 1 (.Lt .w (.n 26)) 0 qq d5 (Int.toNat_of_nonneg (d3)))
  refine aD (aD (aD (a9 0 rfl (aC (bN (aC (cL (by decide) (PyProof.noPylong_small (by decide)) (aC ?_))))))))
  refine aJ ?_
  refine iH ?_ (fK (show 1≤8 by decide) (by exact aI [] [_,_] (.le .x (.n 20000)) 1 (.le .w (.s .x (.n 1))) 1 (.le (.a .w (.n 1)) (.n 1048576)) 0 qq h1 d2) (by exact aB [] [_] (.le (.n 0) .w) 1 (.le (.g (.n 1048576)) (.a .w (.n 1))) 0 qq d1))
  refine hRR _ _ ?_;exact⟨rfl,rfl⟩
theorem wM(r:List (Int×Str)):∀(n:Int) (f:Str),(∀p∈r,1≤p.1∧p.2.length≤2)→0≤n→n≤20000→(j6 r n f).length≤f.length+40000*r.length:=by
 induction r with
 |nil=>exact fun n f _ _ _=>Nat.le_refl _
 |cons q r ih=>
  obtain⟨w,x⟩:=q
  intro n f h h0 h1
  refine aG (h (w,x) (List.mem_cons_self ..)) fun m1 m2=>j4 (eR h0 m1) fun d1 d2 d3 d4 d5=>?_
  simp only at d1 d2 d3 d4 d5 m1 m2
  have ih:=ih (n.fmod w) (f++Txt.mul x (n.fdiv w)) (fun p hp=>h p (List.mem_cons_of_mem _ hp)) d3 (by exact aI [] [_,_] (.le .x (.n 20000)) 1 (.le .w .x) 1 (.le .w (.n 20000)) 0 qq h1 d4)
  have hml:(Txt.mul x (n.fdiv w)).length≤40000:=Nat.le_trans (uQ x (n.fdiv w)) (Nat.mul_le_mul m2 (by lia -abstractProof:(n.fdiv w).toNat≤20000))
  rw[strLen_append] at ih
  simp only[AI,tF,List.length_cons]
  exact aI [_,_,_,_] [] (.Le .w (.a (.a .x .z) (.m 40000 .y))) 1 (.Le .z (.n 40000)) 1 (.Le .w (.a .x (.m 40000 (.a .y (.n 1))))) 0 qq ih hml
theorem kZ{n:Int}(h0:0≤n)(h1:n≤20000):(bV n).length≤520000:=by
 have:=wM c9 n "" (fun p hp=>⟨(iL p hp).1,(iL p hp).2.1⟩) h0 h1
 exact this
theorem gB{n:Int}(h0:1≤n)(h1:n≤20000):(c7 n).length≤20000:=by
 refine j4 (eR (n:=n-1) (w:=26) (by omega) (by omega)) fun d1 d2 d3 d4 d5=>?_
 have:=uQ ⟨#[65+((n-1).fmod 26).toNat]⟩ ((n-1).fdiv 26+1)
 refine Nat.le_trans this ?_
 show 1*_≤_
 exact eQ [_] [_,_] (.le .w (.n 20000)) 1 (.le .x (.s .w (.n 1))) 1 (.eq (.c .w) (.a .x (.n 1))) 1 (.Le (.m 1 .w) (.n 20000)) 0 qq h1 d2 (Int.toNat_of_nonneg (aB [] [_] (.le (.n 0) .w) 1 (.le (.n 0) (.a .w (.n 1))) 0 qq d1))
noncomputable def bD(style:Str)(n:Int):Str:=
 if style== "D" then Str.ofString (toString n) else if style== "" then "" else
  let found:=if tU "R" "r" style then bV n else c7 n
  if tU "R" "A" style then found else Txt.lower found
theorem kB{n:Int}(h0: -65536≤n)(h1:n≤65536):n.natAbs.log2<1920:=by
 by_cases h:n.natAbs=0
 ·rw[h];decide
 ·have:n.natAbs.log2<17:=(Nat.log2_lt h).mpr (by(clear h;lia -abstractProof))
  exact aB [_] [] (.Lt .w (.n 17)) 1 (.Lt .w (.n 1920)) 0 qq this
noncomputable def Hx(x0 x1:Option V):List (Str×Slot):=[("style",.loc x0),("number",.loc x1),("found",.loc none),("str",.glob),("roman",.glob),("letters",.glob)]
theorem c_shown{g:Gx}{f fr fl:Addr}{fd fdr fdl:FuncData}(hf:pG g "shown" 45 f fd)(hdf:fd.defaults= .none)(hfr:pG g "roman" 40 fr fdr)(hfl:pG g "letters" 42 fl fdl)
  (hr:∀n:Int,0≤n→n≤20000→Pure g 1 fr [.int n] (.str (bV n))) (hl:∀n:Int,1≤n→n≤20000→Pure g 1 fl [.int n] (.str (c7 n))) (hs:Gl g "str" (.val (.type "str")))
  {style:Str} {n:Int} (h0:1≤n) (h1:n≤20000):Pure g 2 f [.str style,.int n] (.str (bD style n)):=by
 refine aN (ps:=["style", "number"]) hf hdf (fun _ _ _=>rfl) rfl fun c RR hRR hlv hcel hcode hpins=>?_
 ·refine(?_:WX _ _ ⟨Hx (some _) (some _),_⟩ _ _)
  refine bU (aK (a9 0 rfl (aE (bX (kb ?_)))))
  refine bL (fun _=>?_) (fun _=>?_)
  ·rename_i e1
   refine aO (aL hs .type 3 rfl (a8 (a9 1 rfl (aA ?_))))
   refine lT (kB (by exact aB [] [_] (.le (.n 1) .w) 1 (.le (.g (.n 65536)) .w) 0 qq h0) (by exact aB [] [_] (.le .w (.n 20000)) 1 (.le .w (.n 65536)) 0 qq h1)) (hRR _ _ ⟨?_,rfl⟩)
   rw[bD,if_pos e1]
  ·rename_i e1
   refine aF (bU (aK (a9 0 rfl (aE (bX (kb ?_))))))
   refine bL (fun _=>?_) (fun _=>?_)
   ·rename_i e2
    exact aO (aE (hRR _ _ (⟨by rw[bD,if_neg e1,if_pos e2],rfl⟩)))
   ·rename_i e2
    refine aF (aM (iB (aK (a9 0 rfl (bS (a8 (aE (a8 ?_))))))))
    refine aE (aA (dA rfl (cP (kb ?_))))
    refine bL (fun _=>?_) (fun _=>?_)
    ·rename_i e3
     refine aX hfr 4 rfl (a8 (a9 1 rfl (aA ?_)))
     refine⟨1,_,by exact lv hlv,hr n (by exact aB [] [_] (.le (.n 1) .w) 1 (.le (.n 0) .w) 0 qq h0) h1,?_⟩
     refine d8 2 rfl (aO (iB (aK (a9 0 rfl (bS (a8 (aE (a8 ?_))))))))
     refine aE (aA (dA rfl (cP (kb ?_))))
     refine bL (fun _=>?_) (fun _=>?_)
     ·rename_i e4
      refine a9 2 rfl (hRR _ _ ?_)
      exact⟨by rw[bD,if_neg e1,if_neg e2];simp only[e3,e4,if_true],rfl⟩
     ·rename_i e4
      refine aY (a9 2 rfl ?_)
      refine⟨_,kW,.builtin,?_⟩
      refine aA ?_
      refine nG (Nat.le_trans (kZ (by exact aB [] [_] (.le (.n 1) .w) 1 (.le (.n 0) .w) 0 qq h0) h1) (by decide)) fun _=>(hRR _ _ ⟨?_,rfl⟩)
      rw[bD,if_neg e1,if_neg e2];simp only[e3,e4,if_true,if_false,Bool.false_eq_true]
    ·rename_i e3
     refine aX hfl 5 rfl (a8 (a9 1 rfl (aA ?_)))
     refine⟨1,_,by exact lv hlv,hl n h0 h1,?_⟩
     refine d8 2 rfl (aO (iB (aK (a9 0 rfl (bS (a8 (aE (a8 ?_))))))))
     refine aE (aA (dA rfl (cP (kb ?_))))
     refine bL (fun _=>?_) (fun _=>?_)
     ·rename_i e4
      refine a9 2 rfl (hRR _ _ ?_)
      exact⟨by rw[bD,if_neg e1,if_neg e2];simp only[e3,e4,if_true,if_false,Bool.false_eq_true],rfl⟩
     ·rename_i e4
      refine aY (a9 2 rfl ?_)
      refine⟨_,kW,.builtin,?_⟩
      refine aA ?_
      refine nG (Nat.le_trans (gB h0 h1) (by decide)) fun _=>(hRR _ _ ⟨?_,rfl⟩)
      rw[bD,if_neg e1,if_neg e2];simp only[e3,e4,if_false,Bool.false_eq_true,if_true]
theorem vR:∀k:Nat,k<26→PySem.Builtin.Str.occurrences eU ⟨#[65+k]⟩ 0 eU.length 1=[k]:=by decide+kernel
theorem y4(ch:Nat):Txt.contains eU ⟨#[ch]⟩=decide (65≤ch∧ch<91):=by
 unfold Txt.contains
 rw[PySem.StrLaws.found_one]
 have:eU.cps.toList=(List.range 26).map (65+·):=by decide
 rw[this]
 congr 1
 simp only[List.mem_map,List.mem_range,eq_iff_iff]
 constructor
 ·intro z0
  refine aH z0 fun k h1 z3=>?_
  clear z0
  subst z3;exact⟨aZ [_] [] (.Le (.n 65) (.a (.n 65) .w)) 0 qq,aB [_] [] (.Lt .w (.n 26)) 1 (.Lt (.a (.n 65) .w) (.n 91)) 0 qq h1⟩
 ·intro z0
  refine aG z0 fun h1 h2=>?_
  clear z0;exact⟨ch-65,by exact aI [_,_] [] (.Lt .x (.n 91)) 1 (.Eq (.a .w (.n 65)) .x) 1 (.Lt .w (.n 26)) 0 qq h2 (Nat.sub_add_cancel (h1)),by exact cA [_,_] [] (.Eq (.a .w (.n 65)) .x) 1 (.Eq (.a (.n 65) .w) .x) qq (Nat.sub_add_cancel (h1))⟩
noncomputable def bB(text:Str):V:=
 match text.cps[0]? with
 |none=> .none
 |some ch=>if 65≤ch∧ch<91∧text=Txt.mul ⟨#[ch]⟩ text.length then .int (((ch-65:Nat):Int)+1+26*((text.length:Int)-1)) else .none
theorem lL{x:Str}:(x==("" :Str))=true↔x.cps[0]? =none:=by
 rw[beq_iff_eq]
 obtain⟨⟨l⟩⟩:=x
 constructor
 ·intro h
  have:(⟨⟨l⟩⟩:Str).cps= #[]:=by rw[h];rfl
  simp only at this
  rw[this];rfl
 ·intro h
  cases l with
  |nil=>rfl
  |cons a r=>simp at h
noncomputable def Hw(x0:Option V):List (Str×Slot):=[("text",.loc x0),("ALPHABET",.glob),("len",.glob)]
theorem eS{g:Gx}{f:Addr}{fd:FuncData}(hf:pG g "read_letters" 43 f fd)(hdf:fd.defaults= .none)(hA:Gl g "ALPHABET" (.str eU))(hlen:Gl g "len" (.val (.builtin "len"))){text:Str}(hz:text.length≤100000):Pure g 1 f [.str text] (bB text):=by
 refine aN (ps:=["text"]) hf hdf (fun _ _=>rfl) rfl fun c RR hRR hlv hcel hcode hpins=>?_
 ·refine(?_:WX _ _ ⟨Hw (some _),_⟩ _ _)
  refine bU (cZ (fO (aK (a9 0 rfl (aE (bX (kb ?_)))))))
  refine bL (fun _=>?_) (fun _=>?_)
  ·rename_i e1
   exact hH rfl (aO (cE (hRR _ _ (⟨by rw[bB,lL.mp e1],rfl⟩))))
  ·rename_i e1
   obtain⟨ch,hch⟩:∃ch,text.cps[0]? =some ch:=by
    cases q:text.cps[0]? with
    |none=>exact absurd (lL.mpr q) e1
    |some ch=>exact⟨ch,rfl⟩
   have h0:0<text.length:=(Array.getElem?_eq_some_iff.mp hch).1
   have hix:(seqIndex? 0 text.length).bind (text.cps[·]?)=some ch:=by
    rw[bA (Int.le_refl 0) (by exact aB [_] [] (.Lt (.n 0) .w) 1 (.lt (.n 0) (.c .w)) 0 qq h0)];exact hch
   refine fO (aK (aV (a9 0 rfl (aC (fG (by decide) (by decide) hix (bG 1 rfl (by assumption) (pQ ?_)))))))
   rw[y4]
   refine kb ?_
   refine bL (fun _=>?_) (fun _=>?_)
   ·rename_i e2
    refine hH rfl (aO (cE (hRR _ _ ?_)))
    refine⟨?_,rfl⟩
    rw[bB,hch]
    simp only[Bool.not_eq_true',decide_eq_false_iff_not] at e2
    simp only
    rw[if_neg fun q=>e2 ⟨q.1,q.2.1⟩]
   ·rename_i e2
    simp only[Bool.not_eq_true',decide_eq_false_iff_not,Decidable.not_not] at e2
    refine fO (aK (a9 0 rfl (aD (aV (a9 0 rfl (aC (fG (by decide) (by decide) hix (aL hlen .builtin 2 rfl ?_))))))))
    refine a8 (a9 0 rfl (aA (fY (Nat.le_trans hz (by decide)) ?_)))
    refine iH ?_ (fK (show 1≤8 by decide) (by exact aB [_] [] (.Le .w (.n 100000)) 1 (.le (.c .w) (.n 1048576)) 0 qq hz) (by exact aZ [_] [] (.le (.g (.n 1048576)) (.c .w)) 0 qq))
    refine iP (kb ?_)
    refine bL (fun _=>?_) (fun _=>?_)
    ·rename_i e3
     refine hH rfl (aO (cE (hRR _ _ ?_)))
     refine⟨?_,rfl⟩
     rw[bB,hch]
     simp only
     rw[if_neg fun q=>by rw[bne_iff_ne] at e3;exact e3 q.2.2]
    ·rename_i e3
     simp only[bne_iff_ne,ne_eq,Decidable.not_not] at e3
     refine eF (gK rfl (aF (aO (aD (aD (aY (bG 1 rfl (by assumption) ?_)))))))
     refine⟨_,t7,.builtin,?_⟩
     refine a8 (aV (a9 0 rfl (aC (fG (by decide) (by decide) hix (aA ?_)))))
     have hr:ch-65<26:=by exact aI [_,_] [] (.Lt .x (.n 91)) 1 (.Eq (.a .w (.n 65)) .x) 1 (.Lt .w (.n 26)) 0 qq e2.2 (Nat.sub_add_cancel (aB [_] [] (.Le (.n 65) .w) 1 (.Le (.n 65) .w) 0 qq e2.1))
     refine x8 (i:=ch-65) (rest:=[]) ?_ ?_
     ·have:=vR (ch-65) hr
      rw[show 65+(ch-65)=ch from by lia -abstractProof] at this
      exact this
     refine aC (aJ (aD (aC (aD (aL hlen .builtin 2 rfl (a8 (a9 0 rfl (aA ?_))))))))
     refine fY (Nat.le_trans hz (by decide)) (aC (bN ?_))
     refine eJ ?_ (.of_left (by decide))
     refine aJ (hRR _ _ ?_)
     refine⟨?_,rfl⟩
     rw[bB,hch]
     simp only
     rw[if_pos ⟨e2.1,e2.2,e3⟩]
noncomputable def gG:List (Str×Nat):=[(Str.ofString "key_object",21),(Str.ofString "key_of",22),(Str.ofString "node_of",23),(Str.ofString "row_of",24),(Str.ofString "node_pairs",25),(Str.ofString "longer_way",26),(Str.ofString "tree_pairs",27),(Str.ofString "even_parts",28),(Str.ofString "leaf_node",29),(Str.ofString "inner_node",30),(Str.ofString "as_root",31),(Str.ofString "tree_built",32),(Str.ofString "roman",40),(Str.ofString "read_roman",41),(Str.ofString "letters",42),(Str.ofString "read_letters",43),(Str.ofString "read_figures",44),(Str.ofString "shown",45),(Str.ofString "read_shown",46),(Str.ofString "range_at",47),(Str.ofString "label_of",48),(Str.ofString "labels_of",49),(Str.ofString "index_in",50),(Str.ofString "index_of",51),(Str.ofString "check_ranges",52),(Str.ofString "units_of",53),(Str.ofString "prefix_octets",54),(Str.ofString "text_of_units",55),(Str.ofString "prefix_text",56),(Str.ofString "label_dict",57),(Str.ofString "write_labels",58),(Str.ofString "read_range",59),(Str.ofString "read_labels",60),(Str.ofString "_law_pen",62),(Str.ofString "_law_draw",63),(Str.ofString "_law_pick",64),(Str.ofString "_law_roman",66),(Str.ofString "_law_letters",67),(Str.ofString "_law_shown",68),(Str.ofString "_law_ranges",69),(Str.ofString "_law_label",70),(Str.ofString "_law_text_holds",71),(Str.ofString "_law_roman_holds",72),(Str.ofString "_law_refused",73),(Str.ofString "_law_width",74),(Str.ofString "_law_kept",75),(Str.ofString "_law_wrong_refused",76),(Str.ofString "law",77)]
noncomputable def qT:Str:= "0123456789"
noncomputable def dF:List Str:=["D", "R", "r", "A", "a", ""]
noncomputable def sL:List Str:=["", "a", "aa", "aaa", "ab", "b", "ba", "baa", "baaa", "ac"]
structure PF(g:Gx) where
 fa:Nat→Addr
 fd:Nat→FuncData
 fn:∀p∈gG,pG g p.1 p.2 (fa p.2) (fd p.2)
 df:∀p∈gG,p.2≠58→(fd p.2).defaults= .none
 b_len:Gl g "len" (.val (.builtin "len"))
 b_ord:Gl g "ord" (.val (.builtin "ord"))
 b_chr:Gl g "chr" (.val (.builtin "chr"))
 b_min:Gl g "min" (.val (.builtin "min"))
 b_max:Gl g "max" (.val (.builtin "max"))
 b_sum:Gl g "sum" (.val (.builtin "sum"))
 b_abs:Gl g "abs" (.val (.builtin "abs"))
 b_sorted:Gl g "sorted" (.val (.builtin "sorted"))
 b_isinstance:Gl g "isinstance" (.val (.builtin "isinstance"))
 b_int:Gl g "int" (.val (.type "int"))
 b_str:Gl g "str" (.val (.type "str"))
 b_bool:Gl g "bool" (.val (.type "bool"))
 b_list:Gl g "list" (.val (.type "list"))
 b_dict:Gl g "dict" (.val (.type "dict"))
 b_bytes:Gl g "bytes" (.val (.type "bytes"))
 b_range:Gl g "range" (.val (.type "range"))
 b_reversed:Gl g "reversed" (.val (.type "reversed"))
 g_ROMAN:Gl g "ROMAN" (.tup (rG c9))
 g_ALPHABET:Gl g "ALPHABET" (.str eU)
 g_FIGURES:Gl g "FIGURES" (.str qT)
 g_STYLES:Gl g "STYLES" (.tup (V.strs dF))
 g_MARK:Gl g "MARK" (.bytes #[254,255])
 g_MOST_HOPS:Gl g "MOST_HOPS" (.int 30)
 g_MOST_DEEP:Gl g "MOST_DEEP" (.int 40)
 g__law_tens:Gl g "_law_tens" (.tup (V.strs sL))
noncomputable def Ff(k:Nat):Option Str:=(gG.find? fun p=>p.2==k).map (·.1)
theorem xH{k:Nat}{n:Str}(h:Ff k=some n):(n,k)∈gG:=by
 obtain⟨p,hp,rfl⟩:=BC h
 have e:=List.find?_some hp
 rw[←beq_iff_eq.mp e]
 exact List.mem_of_find?_eq_some hp
theorem PF.i{g:Gx}(P:PF g)(k:Nat){n:Str}(h:Ff k=some n):pG g n k (P.fa k) (P.fd k):=P.fn (n,k) (xH h)
theorem PF.j{g:Gx}(P:PF g)(k:Nat)(h:((Ff k).isSome&&k != 58)=true):(P.fd k).defaults= .none:=by
 obtain⟨h1,h2⟩:=Bool.and_eq_true_iff.mp h
 obtain⟨n,hn⟩:=Option.isSome_iff_exists.mp h1
 exact P.df (n,k) (xH hn) (bne_iff_ne.mp h2)
noncomputable abbrev S(l:List Nat):Str:=⟨l.toArray⟩
theorem Fq(x:Str):x=S x.cps.toList:=by cases x;simp
theorem iZ(l:List Nat):(S l).length=l.length:=by simp[Str.length]
theorem Ei(a b:List Nat):S a++S b=S (a++b):=by show Str.append _ _=_;simp[Str.append]
theorem Gh{a b:List Nat}:S a=S b↔a=b:=by
 constructor
 ·intro h;have:=congrArg (fun x:Str=>x.cps.toList) h;simpa using this
 ·rintro rfl;rfl
theorem len_list(x:Str):x.length=x.cps.toList.length:=by simp[Str.length]
theorem tW(l:Array Nat):∀(k:Nat) (acc:Array Nat),(List.replicate k l).foldl (·++·) acc=acc++((List.replicate k l.toList).flatten).toArray
 |0,acc=>by simp
 |k+1,acc=>by rw[List.replicate_succ,List.foldl_cons,tW l k,List.replicate_succ,List.flatten_cons];apply Array.toList_inj.mp;simp
theorem y5(l:List Nat)(n:Int):Txt.mul (S l) n=S (List.replicate n.toNat l).flatten:=by
 unfold Txt.mul
 by_cases h:n<1
 ·rw[if_pos h]
  have:n.toNat=0:=by lia -abstractProof
  rw[this];rfl
 ·rw[if_neg h]
  split
  ·rename_i h2
   simp only[Bool.or_eq_true,beq_iff_eq] at h2
   rcases h2 with h2|h2
   ·subst h2;simp
   ·rw[iZ] at h2
    have:l=[]:=List.eq_nil_of_length_eq_zero h2
    subst this
    simp
  ·rw[tW];simp
theorem i9{n:Nat}{a b:Nat}:Builtin.Str.strSliceIndices (some (a:Int)) (some (b:Int)) 1 n=Builtin.Str.strSliceIndices (some ((min a n:Nat):Int)) (some ((min b n:Nat):Int)) 1 n:=by
 have h0:¬(a:Int)<0:=by exact aZ [_] [] (.nlt (.c .w) (.n 0)) 0 qq
 have h1:¬(b:Int)<0:=by exact aZ [_] [] (.nlt (.c .w) (.n 0)) 0 qq
 have h2:¬((min a n:Nat):Int)<0:=by exact aZ [_] [] (.nlt (.c .w) (.n 0)) 0 qq
 have h3:¬((min b n:Nat):Int)<0:=by exact aZ [_] [] (.nlt (.c .w) (.n 0)) 0 qq
 have e0:min (a:Int) (n:Int)=((min a n:Nat):Int):=by omega
 have e1:min (b:Int) (n:Int)=((min b n:Nat):Int):=by omega
 have e2:min ((min a n:Nat):Int) (n:Int)=((min a n:Nat):Int):=by exact(Int.min_eq_left (aB [_,_] [] (.Le .w .x) 1 (.le (.c .w) (.c .x)) 0 qq (Nat.min_le_right _ _)))
 have e3:min ((min b n:Nat):Int) (n:Int)=((min b n:Nat):Int):=by exact(Int.min_eq_left (aB [_,_] [] (.Le .w .x) 1 (.le (.c .w) (.c .x)) 0 qq (Nat.min_le_right _ _)))
 have z:((1:Int)>0)=True:=by simp
 unfold Builtin.Str.strSliceIndices
 simp only[h0,h1,h2,h3,if_false,z,if_true,e0,e1,e2,e3]
theorem xC{n:Nat}{a:Nat}:Builtin.Str.strSliceIndices (some (a:Int)) none 1 n=Builtin.Str.strSliceIndices (some (a:Int)) (some (n:Int)) 1 n:=by
 have h1:¬(n:Int)<0:=by exact aZ [_] [] (.nlt (.c .w) (.n 0)) 0 qq
 have e:max 0 (min (n:Int) (n:Int))=n:=by exact wZ [_] [_,_] (.eq .x (.c .w)) 1 (.eq .w .x) 1 (.eq .w (.c .w)) qq (Int.min_eq_left (aZ [_] [] (.le (.c .w) (.c .w)) 0 qq)) (Int.max_eq_right (aB [_] [_] (.eq .w (.c .w)) (.negSucc 0) (.le (.n 0) .w) 0 qq (Int.min_eq_left (aZ [_] [] (.le (.c .w) (.c .w)) 0 qq))))
 have z:((1:Int)>0)=True:=by simp
 unfold Builtin.Str.strSliceIndices
 simp only[h1,if_false,z,if_true,e]
theorem sM{α:Type}(l:List α){a b:Nat}(h:a≤b):(l.drop (min a l.length)).take (min b l.length-min a l.length)=(l.drop a).take (b-a):=by
 by_cases h1:a≤l.length
 ·rw[Nat.min_eq_left h1]
  by_cases h2:b≤l.length
  ·rw[Nat.min_eq_left h2]
  ·rw[Nat.min_eq_right (by exact aB [_,_] [] (.Nle .x .w) 1 (.Le .w .x) 0 qq h2),List.take_of_length_le (by simp),List.take_of_length_le (by simp;exact aI [_,_,_,_] [] (.Nle .z .w) 1 (.Eq (.a .x .y) .z) (.negSucc 0) (.Le .w (.a .x .y)) 0 qq h2 (Nat.sub_add_cancel (h)))]
 ·rw[List.drop_eq_nil_of_le (as:=l) (i:=a) (by exact aB [_,_] [] (.Nle .x .w) 1 (.Le .w .x) 0 qq h1)]
  have:min b l.length-min a l.length=0:=by exact Ah [_,_,_,_] [] (.Eq .x .y) 1 (.Eq .z .y) (.negSucc 0) (.Eq (.a .w .z) .x) 1 (.Eq .w (.n 0)) qq (Nat.min_eq_right (aI [_,_,_] [] (.Le .y .x) 1 (.Nle .y .w) 1 (.Le .w .x) 0 qq h h1)) (Nat.min_eq_right (aB [_,_] [] (.Nle .x .w) 1 (.Le .w .x) 0 qq h1)) (Nat.sub_add_cancel (aI [_,_,_] [] (.Eq .x .y) (.negSucc 0) (.Eq .w .y) 1 (.Le .w .x) 0 qq (Nat.min_eq_right (aI [_,_,_] [] (.Le .y .x) 1 (.Nle .y .w) 1 (.Le .w .x) 0 qq h h1)) (Nat.min_eq_right (aB [_,_] [] (.Nle .x .w) 1 (.Le .w .x) 0 qq h1))))
  rw[this];simp
theorem tC(x:Str){a b:Nat}(h:a≤b):Txt.slice x (some (a:Int)) (some (b:Int))=S ((x.cps.toList.drop a).take (b-a)):=by
 have key:(Builtin.Str.strSliceIndices (some (a:Int)) (some (b:Int)) 1 x.length).filterMap (x.cps[·]?)=(x.cps.toList.drop a).take (b-a):=by
  rw[i9,StrLaws.sliced_plain x (by lia -abstractProof) (by exact(Nat.min_le_right _ _)),len_list,sM _ h]
 unfold Txt.slice
 split
 ·rename_i h2
  simp only[Bool.and_eq_true,beq_iff_eq] at h2
  have hl:=StrLaws.strSliceIndices_plain (len:=x.length) (a:=min a x.length) (b:=min b x.length) (by(clear h2 key;lia -abstractProof)) (by exact(Nat.min_le_right _ _))
  rw[i9,hl,List.length_map,List.length_range] at h2
  rw[←key,i9,hl]
  by_cases hz:x.length=0
  ·have:x.cps.toList=[]:=List.eq_nil_of_length_eq_zero (by rw[←len_list];exact hz)
   rw[Fq x,this];simp
  ·have e1:min a x.length=0:=by(clear hl key h;lia -abstractProof)
   have e2:min b x.length=x.length:=by exact Ah [_,_,_,_] [] (.Eq .y .x) 1 (.Eq .z (.n 0)) 1 (.Eq (.a .y .z) .w) (.negSucc 0) (.Eq .w .x) qq h2.2 e1 (Nat.sub_add_cancel (aB [_,_] [] (.Eq .w (.n 0)) 1 (.Le .w .x) 0 qq e1))
   rw[e1,e2]
   have:=StrLaws.picks x.cps.toList x.length 0 (by rw[←len_list];exact aZ [_] [] (.Le (.a (.n 0) .w) .w) 0 qq)
   simp only[List.drop_zero,Nat.sub_zero] at this ⊢
   have h3:(List.map (fun k=>0+k) (List.range x.length)).filterMap (x.cps[·]?)=x.cps.toList.take x.length:=by rw[←this];simp
   rw[h3,List.take_of_length_le (by rw[←len_list];exact Nat.le_refl _)]
 ·rw[key]
theorem tD(x:Str)(a:Nat):Txt.slice x (some (a:Int)) none=S (x.cps.toList.drop a):=by
 have e:Txt.slice x (some (a:Int)) none=Txt.slice x (some (a:Int)) (some (x.length:Int)):=by unfold Txt.slice;rw[xC]
 rw[e]
 by_cases h:a≤x.length
 ·rw[tC x h,List.take_of_length_le (by rw[len_list];simp)]
 ·unfold Txt.slice
  rw[i9]
  have h1:min a x.length=x.length:=by exact(Nat.min_eq_right (aB [_,_] [] (.Nle .x .w) 1 (.Le .w .x) 0 qq h))
  have hn:Builtin.Str.strSliceIndices (some ((min a x.length:Nat):Int)) (some ((min x.length x.length:Nat):Int)) 1 x.length=[]:=by
   rw[StrLaws.strSliceIndices_plain (by exact aI [_,_,_] [] (.Eq .w .y) 1 (.Eq .x .y) (.negSucc 0) (.Le .w .x) 0 qq (Nat.min_eq_right (aB [_,_] [] (.Nle .x .w) 1 (.Le .w .x) 0 qq h)) (Nat.min_eq_left (aZ [_] [] (.Le .w .w) 0 qq))) (by exact aB [_,_] [] (.Eq .w .x) 1 (.Le .w .x) 0 qq (Nat.min_eq_left (aZ [_] [] (.Le .w .w) 0 qq)))]
   have:min x.length x.length-min a x.length=0:=by exact Ah [_,_,_,_] [] (.Eq .x .y) 1 (.Eq .z .y) (.negSucc 0) (.Eq (.a .w .z) .x) 1 (.Eq .w (.n 0)) qq (Nat.min_eq_left (aZ [_] [] (.Le .w .w) 0 qq)) (Nat.min_eq_right (aB [_,_] [] (.Nle .x .w) 1 (.Le .w .x) 0 qq h)) (Nat.sub_add_cancel (aI [_,_,_] [] (.Eq .x .y) (.negSucc 0) (.Eq .w .y) 1 (.Le .w .x) 0 qq (Nat.min_eq_left (aZ [_] [] (.Le .w .w) 0 qq)) (Nat.min_eq_right (aB [_,_] [] (.Nle .x .w) 1 (.Le .w .x) 0 qq h))))
   rw[this];rfl
  rw[hn,List.drop_eq_nil_of_le (by rw[←len_list];exact aB [_,_] [] (.Nle .x .w) 1 (.Le .w .x) 0 qq h)]
  split
  ·rename_i h2
   simp only[Bool.and_eq_true,beq_iff_eq,List.length_nil] at h2
   have:x.cps.toList=[]:=List.eq_nil_of_length_eq_zero (by rw[←len_list];exact h2.2.symm)
   rw[Fq x,this]
  ·rfl
noncomputable def gU(x:List Nat):Nat→List Nat→Nat
 |0,_=>0
 |n+1,l=>if l.take x.length=x then gU x n (l.drop x.length)+1 else 0
theorem Cy{x q1}:gU x 0 q1=0:=rfl
theorem mO{x n l}:gU x (n+1) l=if l.take x.length=x then gU x n (l.drop x.length)+1 else 0:=rfl
noncomputable def dI:List (Int×Str)→List Nat→Int
 | [],_=>0
 |(w,x)::r,l=>(gU x.cps.toList l.length l:Int)*w+dI r (l.drop (gU x.cps.toList l.length l*x.length))
theorem s4{q1}:dI [] q1=0:=rfl
theorem nL{w x r l}:dI ((w,x)::r) l=(gU x.cps.toList l.length l:Int)*w+dI r (l.drop (gU x.cps.toList l.length l*x.length)):=rfl
noncomputable def cC(text:Str):V:=if 0<dI c9 text.cps.toList∧bV (dI c9 text.cps.toList)=text then .int (dI c9 text.cps.toList) else .none
theorem nO{x:List Nat}(h0:0<x.length)(m:Nat):gU x m []=0:=by
 cases m with
 |zero=>rfl
 |succ m=>
  simp only[mO,List.take_nil]
  rw[if_neg fun e=>by rw[←e] at h0;exact absurd h0 (Nat.lt_irrefl 0)]
theorem tY(x:List Nat)(h0:0<x.length)(n:Nat):∀(m:Nat) (l:List Nat),l.length≤n→l.length≤m→gU x n l=gU x m l:=by
 induction n with
 |zero=>
  intro m l h _
  rw[List.eq_nil_of_length_eq_zero (Nat.le_zero.mp h),nO h0,nO h0]
 |succ n ih=>
  intro m l h1 h2
  cases m with
  |zero=>rw[List.eq_nil_of_length_eq_zero (Nat.le_zero.mp h2),nO h0,nO h0]
  |succ m=>
   rw[mO,mO,ih m (l.drop x.length) (by rw[List.length_drop];(clear h2;lia -abstractProof)) (by rw[List.length_drop];(clear h1;lia -abstractProof))]
theorem Bk{x l:List Nat}(h0:0<x.length)(h:l.take x.length=x):gU x l.length l=gU x (l.drop x.length).length (l.drop x.length)+1∧x.length≤l.length:=by
 have hl:x.length≤l.length:=by have:=congrArg List.length h;rw[List.length_take] at this;exact aI [_,_,_] [] (.Eq .y .w) (.negSucc 0) (.Le .y .x) 1 (.Le .w .x) 0 qq this (Nat.min_le_right _ _)
 refine⟨?_,hl⟩
 rw[tY x h0 l.length (l.length+1) l (Nat.le_refl _) (Nat.le_succ _)]
 simp only[Cy,mO]
 rw[if_pos h,tY x h0 l.length (l.drop x.length).length _ (by rw[List.length_drop];exact aB [_,_,_] [] (.Eq (.a .w .y) .x) 1 (.Le .w .x) 0 qq (Nat.sub_add_cancel (hl))) (Nat.le_refl _)]
theorem Bj{x l:List Nat}(h:l.take x.length≠x):∀n,gU x n l=0
 |0=>rfl
 |n+1=>by simp only[Cy,mO];rw[if_neg h]
theorem yM:∀p∈c9,0<p.2.length∧p.2.length≤2∧1≤p.1∧p.1≤1000:=by decide
theorem BL{text:Str}{a:Nat}{x:Str}:(Txt.slice text (some (a:Int)) (some ((a:Int)+(x.length:Int)))==x)=decide ((text.cps.toList.drop a).take x.length=x.cps.toList):=by
 rw[show(a:Int)+(x.length:Int)=((a+x.length:Nat):Int) by exact d9 [_,_] [] (.eq (.a (.c .w) (.c .x)) (.c (.a .w .x))) qq,tC text (Nat.le_add_right _ _),Nat.add_sub_cancel_left,Fq x,Bool.eq_iff_iff,beq_iff_eq,Gh,decide_eq_true_iff,iZ]
noncomputable def jH(r:List (Int×Str))(l:List Nat)(a:Nat)(t G:Int):Prop:=t+dI r (l.drop a)=G
theorem AM{w:Int}{x:Str}{r:List (Int×Str)}{l:List Nat}{a:Nat}{t G:Int}(h0:0<x.length)(h:jH ((w,x)::r) l a t G)(hs:(l.drop a).take x.length=x.cps.toList):jH ((w,x)::r) l (a+x.length) (t+w) G∧a+x.length≤l.length:=by
 have hx:x.cps.toList.length=x.length:=(len_list x).symm
 refine aG (Bk (x:=x.cps.toList) (l:=l.drop a) (by omega) (by rw[hx];exact hs)) fun e hl=>?_
 rw[hx,List.drop_drop] at e
 rw[hx,List.length_drop] at hl
 refine⟨?_,by(clear e hs h;lia -abstractProof)⟩
 unfold jH at h ⊢
 simp only[s4,nL] at h ⊢
 rw[e,List.drop_drop] at h
 rw[List.drop_drop]
 rw[←h,show a+(gU x.cps.toList (l.drop (a+x.length)).length (l.drop (a+x.length))+1)*x.length=a+x.length+gU x.cps.toList (l.drop (a+x.length)).length (l.drop (a+x.length))*x.length by rw[Nat.add_mul,Nat.one_mul];exact d9 [_,_,_] [] (.Eq (.a .w (.a .x .y)) (.a (.a .w .y) .x)) qq]
 rw[Int.natCast_add,Int.add_mul]
 (clear hl e hx hs h h0;lia -abstractProof)
theorem yR{w:Int}{x:Str}{r:List (Int×Str)}{l:List Nat}{a:Nat}{t G:Int}(h:jH ((w,x)::r) l a t G)(hs:¬(l.drop a).take x.length=x.cps.toList):jH r l a t G:=by
 unfold jH at h ⊢
 simp only[s4,nL] at h
 rw[Bj (x:=x.cps.toList) (by rw[←len_list];exact hs),Nat.zero_mul,List.drop_zero] at h
 (clear hs;lia -abstractProof)
theorem sQ{text:Str}{G:Int}(hG:dI c9 text.cps.toList=G)(h:decide (0<G)=true)(hr:(bV G==text)=true):cC text= .int G:=by
 unfold cC;rw[hG,if_pos ⟨of_decide_eq_true h,beq_iff_eq.mp hr⟩]
theorem mB{text:Str}{G:Int}(hG:dI c9 text.cps.toList=G)(h:¬(decide (0<G)=true∧(bV G==text)=true)):cC text= .none:=by
 unfold cC;rw[hG,if_neg fun q=>h ⟨decide_eq_true q.1,beq_iff_eq.mpr q.2⟩]
noncomputable def Fx(x0 x1 x2 x3 x4:Option V):List (Str×Slot):=[("text",.loc x0),("total",.loc x1),("at",.loc x2),("worth",.loc x3),("signs",.loc x4),("ROMAN",.glob),("len",.glob),("roman",.glob)]
theorem kL{g:Gx}(P:PF g){text:Str}(hz:text.length≤100000):Pure g 2 (P.fa 41) [.str text] (cC text):=by
 refine aN (ps:=["text"]) (P.i 41 rfl) (P.j 41 rfl) (fun _ _=>rfl) rfl fun c RR hRR hl hcel hcode hpins=>?_
 ·obtain⟨G,hG⟩:∃G,dI c9 text.cps.toList=G:=⟨_,rfl⟩
  refine(?_:WX _ _ ⟨Fx (some _) none none none none,_⟩ _ _)
  refine aM (aC (d8 1 rfl (aM (aC (d8 2 rfl ?_)))))
  refine iJ ?_ ?_ ?_ ?_
  ·exact fun items σ=>A0 (fun pre r (total:Int) (a:Nat) w x=>items=rG r) (fun pre r (total:Int) (a:Nat) w x=>pre++r=c9) (fun pre r (total:Int) (a:Nat) w x=>a≤text.length) (fun pre r (total:Int) (a:Nat) w x=>0≤total) (fun pre r (total:Int) (a:Nat) w x=>total≤1000*a) (fun pre r (total:Int) (a:Nat) w x=>jH r text.cps.toList a total G) (fun pre r (total:Int) (a:Nat) w x=>σ=⟨Fx (some (.str text)) (some (.int total)) (some (.int a)) w x,[]⟩)
  ·refine bH (bG 5 rfl P.g_ROMAN ⟨_,.tup,[],c9,0,0,none,none,rfl,rfl,Nat.zero_le _,Int.le_refl _,Int.le_refl _,?_,rfl⟩)
   unfold jH;rw[List.drop_zero,Int.zero_add];exact hG
  ·intro JJ1 hJJ1 v r σ₁ z0
   refine A0.e z0 fun pre r' total a w x e hpre ha h0 h1 hgo z1=>?_
   clear z0
   subst z1
   intro ps
   cases r' with
   |nil=>cases e
   |cons p r' =>
    cases e
    refine m7 (yM p (by rw[←hpre];simp)) fun m1 m2 m3 m4=>?_
    refine gW (.cons (.cons .nil)) (.cons (aR 3 rfl) (.cons (aR 4 rfl) .nil)) ?_
    refine mS ?_ ?_ ?_ ?_
    ·exact fun n σ=>E2x6 (fun(total:Int) (a:Nat)=>n=text.length-a) (fun(total:Int) (a:Nat)=>a≤text.length) (fun(total:Int) (a:Nat)=>0≤total) (fun(total:Int) (a:Nat)=>total≤1000*a) (fun(total:Int) (a:Nat)=>jH (p::r') text.cps.toList a total G) (fun(total:Int) (a:Nat)=>σ=⟨Fx (some (.str text)) (some (.int total)) (some (.int a)) (some (.int p.1)) (some (.str p.2)),[]⟩)
    ·exact text.length-a
    ·exact⟨total,a,rfl,ha,h0,h1,hgo,rfl⟩
    intro JJ2 hJJ2 n σ₂ z0
    refine E2x6.e z0 fun total a z1 ha h0 h1 hgo z2=>?_
    clear z0
    subst z1
    subst z2
    refine aK (kK (a9 0 rfl (eX (a9 2 rfl (nE (eX (aD (a9 2 rfl ?_))))))))
    refine aL P.b_len .builtin 6 rfl (a8 (a9 4 rfl (aA (fY (Nat.le_trans m2 (by decide)) (aJ (nE ?_))))))
    refine⟨_,.str (Nat.le_trans hz (by decide)),?_⟩
    refine a9 4 rfl (bX (kb (bI ?_)))
    rw[BL]
    refine bL (fun _=>?_) (fun _=>?_)
    ·rename_i hs
     refine aG (AM m1 hgo (decide_eq_true_iff.mp hs)) fun g1 g2=>?_
     rw[←len_list] at g2
     refine aM (aD (a9 1 rfl (a9 3 rfl (aJ (d8 1 rfl (aM (aD (a9 2 rfl ?_))))))))
     refine aL P.b_len .builtin 6 rfl (a8 (a9 4 rfl (aA (fY (Nat.le_trans m2 (by decide)) (aJ (d8 2 rfl (aF (hJJ2 _ _ ?_))))))))
     exact⟨text.length-(a+p.2.length),by exact eQ [_,_,_,_,_] [] (.Lt (.n 0) .y) 1 (.Eq (.a .w (.a .z .y)) (.v 4)) 1 (.Eq (.a .x .z) (.v 4)) (.negSucc 0) (.Lt .w .x) 0 qq m1 (Nat.sub_add_cancel (g2)) (Nat.sub_add_cancel (ha)),total+p.1,a+p.2.length,rfl,g2,by exact aI [] [_,_] (.le (.n 1) .x) 1 (.le (.n 0) .w) 1 (.le (.n 0) (.a .w .x)) 0 qq m3 h0,by exact eQ [_,_] [_,_] (.Lt (.n 0) .x) 1000 (.le .x (.n 1000)) 1 (.le .w (.m (.n 1000) (.c .w))) 1 (.le (.a .w .x) (.m (.n 1000) (.c (.a .w .x)))) 0 qq m1 m4 h1,g1,by rw[Int.natCast_add];rfl⟩
    ·rename_i hs
     refine aF (aF (hJJ1 _ _ ?_))
     exact⟨pre++[p],r',total,a,_,_,rfl,by rw[List.append_assoc];exact hpre,ha,h0,h1,yR hgo fun q=>hs (decide_eq_true_iff.mpr q),rfl⟩
  ·intro σ₁ z0
   refine A0.e z0 fun pre r' total a w x e hpre ha h0 h1 hgo z1=>?_
   clear z0
   subst z1
   cases r' with
   |cons p r' =>cases e
   |nil=>
    obtain rfl:total=G:=by unfold jH at hgo;simp only[s4,nL] at hgo;exact cA [] [_,_] (.eq (.a .w (.n 0)) .x) 1 (.eq .w .x) qq hgo
    refine aF (aO (iB (cZ (eG (aK (a9 1 rfl (aC (qA ?_))))))))
    refine kb ?_
    refine bL (fun _=>?_) (fun _=>?_)
    ·rename_i hp
     refine eG (aK (aX (P.i 40 rfl) 7 rfl (a8 (a9 1 rfl (aA ?_)))))
     refine⟨1,_,by exact lv hl,qV (P.i 40 rfl) (P.j 40 rfl) P.g_ROMAN h0 (by exact eQ [_,_] [_] (.Le .w (.n 100000)) 1000 (.Le .x .w) 1000 (.le .w (.m (.n 1000) (.c .x))) 1 (.le .w (.n 1000000000)) 0 qq hz ha h1),?_⟩
     refine a9 0 rfl (bX (kb ?_))
     refine bL (fun _=>?_) (fun _=>?_)
     ·rename_i hr
      exact dQ (oM rfl (a9 1 rfl (hRR _ _ (⟨(sQ hG hp hr).symm,rfl⟩))))
     ·rename_i hr
      exact mN rfl (cE (hRR _ _ (⟨(mB hG fun q=>hr q.2).symm,rfl⟩)))
    ·rename_i hp
     exact mN rfl (cE (hRR _ _ (⟨(mB hG fun q=>hp q.1).symm,rfl⟩)))
structure Bw{α:Type}(ok:α→Prop)(f:α→V)(fd:α→PyData):Prop where
 py:∀a,oB (f a) (fd a)
 lay:∀a,ok a→(fd a).canLay0=true
 dep:∀a,(fd a).depth≤3
 mix:∀a b,SeqAt.noMix (fd a) (fd b)=true
 inj:∀a b,fd a=fd b→a=b
theorem Bw.all{α:Type}{ok:α→Prop}{f:α→V}{fd:α→PyData}(k:Bw ok f fd)(l:List α):(∀a∈l,ok a)→IsPys (l.map f) (l.map fd)∧PyData.canLayAll0 (l.map fd)=true∧PyData.depthAll (l.map fd)≤3∧∀r:List α,SeqAt.noMixAll (l.map fd) (r.map fd)=true:=by
 induction l with
 |nil=>exact fun _=>⟨.nil,rfl,Nat.zero_le _,fun r=>by cases r<;>rfl⟩
 |cons a l ih=>
  intro ho
  refine m7 (ih fun b hb=>ho b (List.mem_cons_of_mem _ hb)) fun h1 h2 h3 h4=>?_
  refine⟨.cons (k.py a) h1,Bool.and_eq_true_iff.mpr ⟨k.lay a (ho a (List.mem_cons_self ..)),h2⟩,Nat.max_le.mpr ⟨k.dep a,h3⟩,fun r=>?_⟩
  cases r with
  |nil=>rfl
  |cons b r=>exact Bool.and_eq_true_iff.mpr ⟨k.mix a b,h4 r⟩
theorem Bw.maps{α:Type}{ok:α→Prop}{f:α→V}{fd:α→PyData}(k:Bw ok f fd)(l:List α):∀r:List α,l.map fd=r.map fd→l=r:=by
 induction l with
 |nil=>intro r h;cases r with
  |nil=>rfl
  |cons b r=>cases h
 |cons a l ih=>intro r h;cases r with
  |nil=>cases h
  |cons b r=>rw[k.inj a b (List.cons.inj h).1,ih r (List.cons.inj h).2]
theorem Bw.same{α:Type}[DecidableEq α]{ok:α→Prop}{f:α→V}{fd:α→PyData}(k:Bw ok f fd)(l r:List α):Spec.same (.list (l.map fd)) (.list (r.map fd))=decide (l=r):=by
 rw[Bool.eq_iff_iff,PyProof.Rows.same_iff,decide_eq_true_iff]
 exact⟨fun h=>k.maps l r (PyData.list.inj h),fun h=>by rw[h]⟩
theorem Bw.shaped{α:Type}{ok:α→Prop}{f:α→V}{fd:α→PyData}(k:Bw ok f fd)(l:List α)(ho:∀a∈l,ok a):SeqAt.shaped (.list (l.map fd))=true:=by
 exact m7 (k.all l ho) fun h1 h2 h3 h4=>Bool.and_eq_true_iff.mpr ⟨h2,decide_eq_true (show PyData.depthAll (l.map fd)+1≤64 by exact aB [_] [] (.Le .w (.n 3)) 1 (.Le (.a .w (.n 1)) (.n 64)) 0 qq h3)⟩
section
variable {α:Type}[DecidableEq α]{ok:α→Prop}{f:α→V}{fd:α→PyData}{c:Cx}{σ:St}{X:Value→St→Prop}{Q:V→St→Prop}{l r:List α}
theorem l6(k:Bw ok f fd)(hl:∀a∈l,ok a)(hr:∀a∈r,ok a)(h:Q (.bool (decide (l=r))) σ):iX c (compareOp .Eq) (.lst (l.map f)) (.lst (r.map f)) σ X Q:=
 o_eq (.lst (k.all l hl).1) (.lst (k.all r hr).1) (k.shaped l hl) (k.shaped r hr) ((k.all l hl).2.2.2 r) (by rw[k.same];exact h)
theorem l5(k:Bw ok f fd)(hl:∀a∈l,ok a)(hr:∀a∈r,ok a)(h:Q (.bool (!decide (l=r))) σ):iX c (compareOp .NotEq) (.lst (l.map f)) (.lst (r.map f)) σ X Q:=
 o_ne (.lst (k.all l hl).1) (.lst (k.all r hr).1) (k.shaped l hl) (k.shaped r hr) ((k.all l hl).2.2.2 r) (by rw[k.same];exact h)
end
noncomputable def fM(x:Str):Prop:=∀c∈x.cps.toList,c<0x110000
theorem fM.b{x:Str}(h:fM x):PyData.strOk x=true:=by
 unfold PyData.strOk
 rw[Array.all_eq_true_iff_forall_mem]
 exact fun c hc=>decide_eq_true (h c (Array.mem_toList_iff.mpr hc))
theorem v9:Bw fM V.str PyData.str:=⟨fun _=> .str,fun _ h=>h.b,fun _=>Nat.zero_le _,fun _ _=>rfl,fun _ _ h=>PyData.str.inj h⟩
theorem Cv:Bw (fun _=>True) V.int PyData.int:=⟨fun _=> .int,fun _ _=>rfl,fun _=>Nat.zero_le _,fun _ _=>rfl,fun _ _ h=>PyData.int.inj h⟩
structure Rg where
 first:Int
 style:Str
 pre:Str
 start:Int
 deriving DecidableEq
noncomputable def Rg.v(r:Rg):V:= .tup [.int r.first,.str r.style,.str r.pre,.int r.start]
noncomputable def Rg.d(r:Rg):PyData:= .tuple [.int r.first,.str r.style,.str r.pre,.int r.start]
theorem Ao:Bw (fun r=>fM r.style∧fM r.pre) Rg.v Rg.d:=⟨fun _=> .tup (.cons .int (.cons .str (.cons .str (.cons .int .nil)))),fun a h=>by
 show(true&&(_&&(_&&(true&&true))))=true
 have h1:=h.1.b
 have h2:=h.2.b
 unfold PyData.canLay0
 rw[h1,h2];rfl,fun _=>by simp[Rg.d,PyData.depth,PyData.depthAll],fun _ _=>rfl,fun a b h=>by
 cases a;cases b;simp only[Rg.d,PyData.tuple.injEq,List.cons.injEq,PyData.int.injEq,PyData.str.injEq] at h
 refine j4 h fun z0 z1 z2 z3 _=>?_
 clear h
 subst z0
 subst z1
 subst z2
 subst z3;rfl⟩
noncomputable def lW(n:Nat):Str:=⟨#[n]⟩
noncomputable def tT(n:Nat):Bool:=decide (48≤n∧n<58)
theorem zH(ch:Nat):Txt.contains qT (lW ch)=tT ch:=by
 unfold Txt.contains lW tT
 rw[PySem.StrLaws.found_one]
 have:qT.cps.toList=(List.range 10).map (48+·):=by decide
 rw[this]
 congr 1
 simp only[List.mem_map,List.mem_range,eq_iff_iff]
 constructor
 ·intro z0
  refine aH z0 fun k h1 z3=>?_
  clear z0
  subst z3;exact⟨aZ [_] [] (.Le (.n 48) (.a (.n 48) .w)) 0 qq,aB [_] [] (.Lt .w (.n 10)) 1 (.Lt (.a (.n 48) .w) (.n 58)) 0 qq h1⟩
 ·intro z0
  refine aG z0 fun h1 h2=>?_
  clear z0;exact⟨ch-48,by exact aI [_,_] [] (.Lt .x (.n 58)) 1 (.Eq (.a .w (.n 48)) .x) 1 (.Lt .w (.n 10)) 0 qq h2 (Nat.sub_add_cancel (h1)),by exact cA [_,_] [] (.Eq (.a .w (.n 48)) .x) 1 (.Eq (.a (.n 48) .w) .x) qq (Nat.sub_add_cancel (h1))⟩
noncomputable def pU(text:Str):Bool:=decide (text.length≤20)&&text.cps.toList.all tT
noncomputable def bQ(text:Str):V:=match text.cps[0]? with
 |none=> .none
 |some ch=>if ch=48∨pU text=false then .none else .int (NumText.digitsVal text.cps.toList:Nat)
theorem yJ{text:Str}(e1:¬(text==("" :Str))=true):∃ch,text.cps[0]? =some ch∧(seqIndex? 0 text.length).bind (text.cps[·]?)=some ch:=by
 cases q:text.cps[0]? with
 |none=>exact absurd (lL.mpr q) e1
 |some ch=>
  have h0:0<text.length:=(Array.getElem?_eq_some_iff.mp q).1
  exact⟨ch,rfl,by rw[bA (Int.le_refl 0) (by exact aB [_] [] (.Lt (.n 0) .w) 1 (.lt (.n 0) (.c .w)) 0 qq h0)];exact q⟩
theorem CK{a b:Nat}:(lW a==lW b)=decide (a=b):=by
 rw[Bool.eq_iff_iff,beq_iff_eq,decide_eq_true_iff]
 constructor
 ·intro h;have:=congrArg (fun x:Str=>x.cps.toList) h;simpa [lW] using this
 ·rintro rfl;rfl
theorem lC{l:List Nat}{p:Nat→Bool}:(l.filter p).map lW=[]↔∀n∈l,p n=false:=by
 rw[List.map_eq_nil_iff,List.filter_eq_nil_iff]
 exact forall₂_congr fun n _=>by rw[Bool.not_eq_true]
theorem fM.ch{text:Str}(h:fM text){n:Nat}(hn:n∈text.cps.toList):fM (lW n):=by
 intro c hc
 have:c=n:=by simpa [lW] using hc
 exact this▸h n hn
noncomputable def Hv(x0:Option V):List (Str×Slot):=[("text",.loc x0),("len",.glob),("int",.glob)]
theorem s9{g:Gx}(P:PF g){text:Str}(hz:text.length≤100000)(ho:fM text):Pure g 1 (P.fa 44) [.str text] (bQ text):=by
 refine aN (ps:=["text"]) (P.i 44 rfl) (P.j 44 rfl) (fun _ _=>rfl) rfl fun c RR hRR hl hcel hcode hpins=>?_
 ·refine(?_:WX _ _ ⟨Hv (some _),_⟩ _ _)
  refine bU (cZ (fO (aK (a9 0 rfl (aE (bX (kb ?_)))))))
  refine bL (fun _=>?_) (fun _=>?_)
  ·rename_i e1
   refine hH rfl (aO (cE (hRR _ _ ?_)))
   exact⟨by unfold bQ;rw[lL.mp e1],rfl⟩
  ·rename_i e1
   refine aH (yJ e1) fun ch hch hix=>fO (aK (aV (a9 0 rfl (aC (fG (by decide) (by decide) hix (aE (bX ?_)))))))
   refine kb ?_
   refine bL (fun _=>?_) (fun _=>?_)
   ·rename_i e2
    refine hH rfl (aO (cE (hRR _ _ ?_)))
    refine⟨?_,rfl⟩
    have:ch=48:=of_decide_eq_true (CK (a:=ch) (b:=48)▸e2)
    unfold bQ;rw[hch];exact(if_pos (.inl this)).symm
   ·rename_i e2
    have h48:ch≠48:=fun q=>e2 ((CK (a:=ch) (b:=48)).trans (decide_eq_true q))
    refine fO (aK (aL P.b_len .builtin 1 rfl (a8 (a9 0 rfl (aA (fY (Nat.le_trans hz (by decide)) (aC (qA ?_))))))))
    refine kb ?_
    refine bL (fun _=>?_) (fun _=>?_)
    ·rename_i e3
     refine hH rfl (aO (cE (hRR _ _ ?_)))
     refine⟨?_,rfl⟩
     unfold bQ;rw[hch]
     refine(if_pos (.inr ?_)).symm
     have:=of_decide_eq_true e3
     unfold pU;rw[decide_eq_false (by exact aB [_] [] (.lt (.n 20) (.c .w)) 1 (.Nle .w (.n 20)) 0 qq this)];rfl
    ·rename_i e3
     have hlen:text.length≤20:=by have:=of_decide_eq_false (Bool.eq_false_iff.mpr e3);exact aB [_] [] (.nlt (.n 20) (.c .w)) 1 (.Le .w (.n 20)) 0 qq this
     refine fO (aK (dZ (ce:=[(".0",.loc none),("sign",.loc none),("FIGURES",.glob)]) (.loc (.loc (.glob .nil))) (bH (a9 0 rfl ?_))))
     refine⟨_,.str,?_,rfl,fun r ys own=>cW (fun a b=>text.cps.toList=a++b) (fun a b=>r=b.map (fun n=>V.str (lW n))) (fun a b=>ys=((a.filter fun n=> !tT n).map lW).map V.str) (fun a b=>own=[]),⟨[],_,rfl,rfl,rfl,rfl⟩,?_,?_⟩
     ·rw[List.length_map,←len_list];exact Nat.le_trans hz (by decide)
     ·intro JJ1 hJJ1 x r ys own z0
      refine cW.e z0 fun a b e4 e5 e6 z1=>?_
      clear z0
      subst z1
      intro e ps B
      cases b with
      |nil=>cases e5
      |cons n b=>
       cases e5
       refine bE 1 rfl (A7 ?_)
       refine aK (a9 1 rfl (bG 2 rfl P.g_FIGURES (pQ ?_)))
       rw[zH]
       refine kb ?_
       refine bL (fun _=>?_) (fun _=>?_)
       ·rename_i e7
        refine a9 1 rfl (hJJ1 _ _ _ ?_)
        exact⟨a++[n],b,by rw[List.append_assoc];exact e4,rfl,by rw[e6,List.filter_append,List.filter_cons,if_pos e7,List.filter_nil,List.map_append,List.map_append];rfl,rfl⟩
       ·rename_i e7
        refine hJJ1 _ _ _ ?_;exact⟨a++[n],b,by rw[List.append_assoc];exact e4,rfl,by rw[e6,List.filter_append,List.filter_cons,if_neg e7,List.filter_nil,List.append_nil],rfl⟩
     ·intro ys own z0
      refine cW.e z0 fun a b e4 e5 z1 z2=>?_
      clear z0
      subst z1
      subst z2
      cases b with
      |cons n b=>cases e5
      |nil=>
       rw[List.append_nil] at e4
       subst e4
       refine cF (aA ⟨by decide,l5 (r:=[]) v9 (fun x hx=>?_) (fun x hx=>nomatch hx) ⟨_,rfl,?_⟩⟩)
       ·refine aH (List.mem_map.mp hx) fun n hn z2=>?_
        subst z2
        exact ho.ch (List.mem_filter.mp hn).1
       refine bL (fun _=>?_) (fun _=>?_)
       ·rename_i e8
        refine hH rfl (aO (cE (hRR _ _ ?_)))
        refine⟨?_,rfl⟩
        unfold bQ;rw[hch]
        refine(if_pos (.inr ?_)).symm
        unfold pU
        rw[Bool.and_eq_false_iff,or_iff_right (by rw[decide_eq_true hlen];exact Bool.noConfusion),←Bool.not_eq_true,List.all_eq_true]
        intro hall
        rw[decide_eq_true (lC.mpr fun n hn=>by rw[hall n hn];rfl)] at e8
        cases e8
       ·rename_i e8
        have hall:∀n∈text.cps.toList,tT n=true:=by
         have:=lC.mp (by simpa only[Bool.not_eq_true',decide_eq_false_iff_not,Decidable.not_not] using e8)
         exact fun n hn=>by have:=this n hn;simpa only[Bool.not_eq_false'] using this
        refine eF (gK rfl (aF (aO (aL P.b_int .type 2 rfl (a8 (a9 0 rfl (aA ?_)))))))
        refine Ba (n:=(NumText.digitsVal text.cps.toList:Nat)) (intText_digits (fun n hn=>?_) ?_ (by exact aB [_] [] (.Le .w (.n 20)) 1 (.Le .w (.n 4300)) 0 qq hlen)) (by exact aB [_] [] (.Le .w (.n 20)) 1 (.Le .w (.n 640)) 0 qq hlen) (hRR _ _ ⟨?_,rfl⟩)
        ·have:=of_decide_eq_true (hall n hn);exact⟨aB [_] [] (.Le (.n 48) .w) 1 (.Le (.n 48) .w) 0 qq this.1,aB [_] [] (.Lt .w (.n 58)) 1 (.Le .w (.n 57)) 0 qq this.2⟩
        ·intro q;rw[←Array.getElem?_toList,q] at hch;cases hch
        ·unfold bQ;rw[hch]
         refine(if_neg ?_).symm
         rintro(q|q)
         ·exact h48 q
         ·unfold pU at q;rw[decide_eq_true hlen,List.all_eq_true.mpr hall] at q;cases q
noncomputable def upperOf(style text:Str):Str:=if tU "R" "A" style=true then text else Txt.upper text
noncomputable def dD(style text:Str):Bool:=tU "r" "a" style&&Txt.lower (upperOf style text) != text
noncomputable def cB(style text:Str):V:=
 if(style== "D")=true then bQ text else if dD style text=true then .none else
  if tU "R" "r" style=true then cC (upperOf style text) else bB (upperOf style text)
noncomputable def Hu(x0 x1:Option V):List (Str×Slot):=[("style",.loc x0),("text",.loc x1),("upper",.loc none),("read_figures",.glob),("read_roman",.glob),("read_letters",.glob)]
theorem vG{g:Gx}(P:PF g){style text:Str}(hz:text.length≤30000)(ho:fM text):Pure g 3 (P.fa 46) [.str style,.str text] (cB style text):=by
 have hu:(upperOf style text).length≤90000:=by have:=len_upper text;unfold upperOf;split<;>(first|exact aB [_] [] (.Le .w (.n 30000)) 1 (.Le .w (.n 90000)) 0 qq hz|exact aI [_,_] [] (.Le .x (.n 30000)) 3 (.Le .w (.m 3 .x)) 1 (.Le .w (.n 90000)) 0 qq hz this)
 refine aN (ps:=["style", "text"]) (P.i 46 rfl) (P.j 46 rfl) (fun _ _ _=>rfl) rfl fun c RR hRR hl hcel hcode hpins=>?_
 ·refine(?_:WX _ _ ⟨Hu (some _) (some _),_⟩ _ _)
  refine bU (aK (a9 0 rfl (aE (bX (kb ?_)))))
  refine bL (fun _=>?_) (fun _=>?_)
  ·rename_i e1
   refine aO (aX (P.i 44 rfl) 3 rfl (a8 (a9 1 rfl (aA ?_))))
   refine⟨1,_,by exact lv hl,s9 P (by exact aB [_] [] (.Le .w (.n 30000)) 1 (.Le .w (.n 100000)) 0 qq hz) ho,?_⟩
   refine hRR _ _ ?_
   exact⟨by unfold cB;rw[if_pos e1],rfl⟩
  ·rename_i e1
   refine aF ?_;refine aM ?_
   refine WE.join (V.str (upperOf style text)) ?_ ?_
   ·refine iB (aK (a9 0 rfl (bS (a8 (aE (a8 (aE (aA ?_))))))))
    refine dA rfl (cP (kb ?_))
    refine bL (fun _=>?_) (fun _=>?_)
    ·rename_i e2
     refine a9 1 rfl ?_
     exact⟨by unfold upperOf;rw[if_pos e2],rfl⟩
    ·rename_i e2
     refine aY (a9 1 rfl (eA w6 .builtin (aA ?_)))
     exact Ak (by exact aB [_] [] (.Le .w (.n 30000)) 1 (.Le .w (.n 5592405)) 0 qq hz) fun _=>⟨by unfold upperOf;rw[if_neg e2],rfl⟩
   ·refine d8 2 rfl ?_;refine bU ?_
    refine WC.join (dD style text) ?_ ?_
    ·refine cZ (eG (aK (a9 0 rfl (bS (a8 (aE (a8 (aE ?_))))))))
     refine aA (dA rfl (cP (kb ?_)))
     refine bL (fun _=>?_) (fun _=>?_)
     ·rename_i e2
      refine eG (aK (aY (a9 2 rfl (eA kW .builtin (aA (nG (by exact aB [_] [] (.Le .w (.n 90000)) 1 (.Le .w (.n 5592405)) 0 qq hu) fun _=>a9 1 rfl (iP ?_)))))))
      refine kb ?_
      refine bL (fun _=>?_) (fun _=>?_)
      ·rename_i e3;refine dQ ?_;exact⟨by unfold dD;rw[e2,e3];rfl,rfl⟩
      ·rename_i e3;exact⟨by unfold dD;rw[e2,Bool.eq_false_iff.mpr e3];rfl,rfl⟩
     ·rename_i e2
      exact⟨by unfold dD;rw[Bool.eq_false_iff.mpr e2];rfl,rfl⟩
    ·refine bL (fun _=>?_) (fun _=>?_)
     ·rename_i e2
      refine aO (cE (hRR _ _ ?_))
      exact⟨by unfold cB;rw[if_neg e1,if_pos e2],rfl⟩
     ·rename_i e2
      refine aF (aO (iB (aK (a9 0 rfl (bS (a8 (aE (a8 ?_))))))))
      refine aE (aA (dA rfl (cP (kb ?_))))
      refine bL (fun _=>?_) (fun _=>?_)
      ·rename_i e3
       refine aX (P.i 41 rfl) 4 rfl (a8 (a9 2 rfl (aA ?_)))
       refine⟨2,_,by exact lv hl,kL P (by exact aB [_] [] (.Le .w (.n 90000)) 1 (.Le .w (.n 100000)) 0 qq hu),?_⟩
       refine hRR _ _ ?_
       exact⟨by unfold cB;rw[if_neg e1,if_neg e2,if_pos e3],rfl⟩
      ·rename_i e3
       refine aX (P.i 43 rfl) 5 rfl (a8 (a9 2 rfl (aA ?_)))
       refine⟨1,_,by exact lv hl,eS (P.i 43 rfl) (P.j 43 rfl) P.g_ALPHABET P.b_len (by exact aB [_] [] (.Le .w (.n 90000)) 1 (.Le .w (.n 100000)) 0 qq hu),?_⟩
       refine hRR _ _ ?_
       exact⟨by unfold cB;rw[if_neg e1,if_neg e2,if_neg e3],rfl⟩
structure vS(r:Rg):Prop where
 f0:0≤r.first
 f1:r.first≤100
 s0:1≤r.start
 s1:r.start≤4000
 pl:r.pre.length≤10
 po:fM r.pre
 st:r.style∈dF
noncomputable def dK:Option Rg→List Rg→Int→Option Rg
 |o,[],_=>o
 |o,r::l,i=>dK (if r.first≤i then some r else o) l i
theorem jS{o r l i}:dK o (r::l) i=dK (if r.first≤i then some r else o) l i:=rfl
noncomputable def Hy:Option Rg→V
 |none=> .none
 |some r=>r.v
theorem pN:∀(l:List Rg) (o:Option Rg) (i:Int) (r:Rg),dK o l i=some r→(r∈l∧r.first≤i)∨o=some r
 | [],o,i,r,h=> .inr h
 |x::l,o,i,r,h=>by
  rcases pN l _ i r h with h1|h1
  ·exact .inl ⟨List.mem_cons_of_mem _ h1.1,h1.2⟩
  ·split at h1
   ·rename_i h2;obtain rfl:=Option.some.inj h1;exact .inl ⟨List.mem_cons_self ..,h2⟩
   ·exact .inr h1
noncomputable def GD(x0 x1 x2 x3:Option V):List (Str×Slot):=[("ranges",.loc x0),("index",.loc x1),("found",.loc x2),("one",.loc x3)]
theorem zQ{g:Gx}(P:PF g){l:List Rg}{i:Int}:Pure g 1 (P.fa 47) [.lst (l.map Rg.v),.int i] (Hy (dK none l i)):=by
 refine aN (ps:=["ranges", "index"]) (P.i 47 rfl) (P.j 47 rfl) (fun _ _ _=>rfl) rfl fun c RR hRR hl hcel hcode hpins=>?_
 ·refine(?_:WX _ _ ⟨GD (some _) (some _) none none,_⟩ _ _)
  refine aM (cE (d8 2 rfl ?_))
  refine iJ ?_ ?_ ?_ ?_
  ·exact fun items σ=>jP (fun r o w=>items=r.map Rg.v) (fun r o w=>dK o r i=dK none l i) (fun r o w=>σ=⟨GD (some (.lst (l.map Rg.v))) (some (.int i)) (some (Hy o)) w,[]⟩)
  ·exact bH (a9 0 rfl (⟨_,.lst,l,none,none,rfl,rfl,rfl⟩))
  ·intro JJ1 hJJ1 v r σ₁ z0
   refine jP.e z0 fun r' o w e h1 z1=>?_
   clear z0
   subst z1
   intro ps
   cases r' with
   |nil=>cases e
   |cons x r' =>
    cases e
    refine bE 3 rfl (bU (aK (aV (a9 3 rfl (aC (cD (j:=0) (x:= .int x.first) rfl rfl (by decide) (by decide) (a9 1 rfl (yW ?_))))))))
    refine kb ?_
    refine bL (fun _=>?_) (fun _=>?_)
    ·rename_i h2
     exact aM (a9 3 rfl (d8 2 rfl (aF (aF (hJJ1 _ _ (⟨r',some x,_,rfl,by rw[←h1,jS,if_pos (of_decide_eq_true h2)],rfl⟩))))))
    ·rename_i h2
     exact aF (aF (hJJ1 _ _ (⟨r',o,_,rfl,by rw[←h1,jS,if_neg fun q=>h2 (decide_eq_true q)],rfl⟩)))
  ·intro σ₁ z0
   refine jP.e z0 fun r' o w e h1 z1=>?_
   clear z0
   subst z1
   cases r' with
   |cons x r' =>cases e
   |nil=>
    refine aF (aO (a9 2 rfl (hRR _ _ ?_)))
    exact⟨by rw[←h1];rfl,rfl⟩
noncomputable def d7(l:List Rg)(i:Int):Str:=match dK none l i with
 |none=>Str.ofString (toString (i+1))
 |some r=>r.pre++bD r.style (r.start+i-r.first)
theorem pM{style:Str}{n:Int}(h0:1≤n)(h1:n≤20000):(bD style n).length≤1560000:=by
 unfold bD
 have hr:=kZ (n:=n) (by exact aB [] [_] (.le (.n 1) .w) 1 (.le (.n 0) .w) 0 qq h0) h1
 have hl:=gB h0 h1
 split
 ·exact Nat.le_trans (KT.len_num (by exact aB [] [_] (.le (.n 1) .w) 1 (.le (.n 0) .w) 0 qq h0) (by exact aB [] [_] (.le .w (.n 20000)) 1 (.lt .w (.n 10000000000)) 0 qq h1)) (by decide)
 ·split
  ·exact Nat.zero_le _
  ·have:∀x:Str,x.length≤520000→(if tU "R" "A" style=true then x else Txt.lower x).length≤1560000:=fun x hx=>by
    split
    ·exact aB [_] [] (.Le .w (.n 520000)) 1 (.Le .w (.n 1560000)) 0 qq hx
    ·have:=len_lower x;exact aI [_,_] [] (.Le .x (.n 520000)) 3 (.Le .w (.m 3 .x)) 1 (.Le .w (.n 1560000)) 0 qq hx this
   exact this _ (by split<;>(first|assumption|exact aB [_] [] (.Le .w (.n 20000)) 1 (.Le .w (.n 520000)) 0 qq hl))
theorem CN{g:Gx}(P:PF g){style:Str}{n:Int}(h0:1≤n)(h1:n≤20000):Pure g 2 (P.fa 45) [.str style,.int n] (.str (bD style n)):=
 c_shown (P.i 45 rfl) (P.j 45 rfl) (P.i 40 rfl) (P.i 42 rfl) (fun n h0 h1=>qV (P.i 40 rfl) (P.j 40 rfl) P.g_ROMAN h0 (by exact aB [] [_] (.le .w (.n 20000)) 1 (.le .w (.n 1000000000)) 0 qq h1)) (fun n h0 h1=>oX (P.i 42 rfl) (P.j 42 rfl) P.g_ALPHABET h0 h1) P.b_str h0 h1
noncomputable def GC(x0 x1:Option V):List (Str×Slot):=[("ranges",.loc x0),("index",.loc x1),("one",.loc none),("first",.loc none),("style",.loc none),("prefix",.loc none),("start",.loc none),("range_at",.glob),("str",.glob),("shown",.glob)]
theorem sA{g:Gx}(P:PF g){l:List Rg}(hk:∀r∈l,vS r){i:Int}(h0:0≤i)(h1:i≤100):Pure g 3 (P.fa 48) [.lst (l.map Rg.v),.int i] (.str (d7 l i)):=by
 refine aN (ps:=["ranges", "index"]) (P.i 48 rfl) (P.j 48 rfl) (fun _ _ _=>rfl) rfl fun c RR hRR hl hcel hcode hpins=>?_
 ·refine(?_:WX _ _ ⟨GC (some _) (some _),_⟩ _ _)
  refine aM (aX (P.i 47 rfl) 7 rfl (a8 (a9 0 rfl (a8 (a9 1 rfl (aA ?_))))))
  refine⟨1,_,by exact lv hl,zQ P,?_⟩
  refine d8 2 rfl (bU (aK (a9 2 rfl (cE (dM (kb (bI ?_)))))))
  cases ho:dK none l i with
  |none=>
   refine cU rfl (aO (aL P.b_str .type 8 rfl (a8 (aD (a9 1 rfl (aC (aJ (aA ?_))))))))
   exact lT (kB (by exact aB [] [_] (.le (.n 0) .w) 1 (.le (.g (.n 65536)) (.a .w (.n 1))) 0 qq h0) (by exact aB [] [_] (.le .w (.n 100)) 1 (.le (.a .w (.n 1)) (.n 65536)) 0 qq h1)) (hRR _ _ ⟨by unfold d7;rw[ho],rfl⟩)
  |some r=>
   refine aG ((pN l none i r ho).resolve_right (fun q=>nomatch q)) fun hm hf=>?_
   have ok:=hk r hm
   have:=ok.f0;have:=ok.f1;have:=ok.s0;have:=ok.s1;have:=ok.pl
   refine bK rfl (aF ?_)
   refine aU (mZ ?_)
   refine a9 2 rfl (gW (.cons (.cons (.cons (.cons .nil)))) (.cons (aR 3 rfl) (.cons (aR 4 rfl) (.cons (aR 5 rfl) (.cons (aR 6 rfl) .nil)))) (aO (aD (a9 5 rfl (aX (P.i 45 rfl) 9 rfl (a8 (a9 4 rfl (a8 ?_))))))))
   refine aD (aD (a9 6 rfl (a9 1 rfl (aJ (a9 3 rfl (bN (aA ?_)))))))
   refine⟨2,_,by exact lv hl,CN P (by exact aI [] [_,_,_] (.le .y .x) 1 (.le (.n 1) .w) 1 (.le (.n 1) (.s (.a .w .x) .y)) 0 qq hf ‹_›) (by exact eQ [] [_,_,_] (.le .x (.n 100)) 1 (.le (.n 0) .y) 1 (.le .w (.n 4000)) 1 (.le (.s (.a .w .x) .y) (.n 20000)) 0 qq h1 ‹_› ‹_›),?_⟩
   have hs:=pM (style:=r.style) (n:=r.start+i-r.first) (by exact aI [] [_,_,_] (.le .y .x) 1 (.le (.n 1) .w) 1 (.le (.n 1) (.s (.a .w .x) .y)) 0 qq hf ‹_›) (by exact eQ [] [_,_,_] (.le .x (.n 100)) 1 (.le (.n 0) .y) 1 (.le .w (.n 4000)) 1 (.le (.s (.a .w .x) .y) (.n 20000)) 0 qq h1 ‹_› ‹_›)
   exact lP (hRR _ _ ⟨by unfold d7;rw[ho],rfl⟩) (show _≤16777216 by exact aI [_,_] [] (.Le .w (.n 10)) 1 (.Le .x (.n 1560000)) 1 (.Le (.a .w .x) (.n 16777216)) 0 qq this hs)
theorem jY{i:Int}(h0: -1000000≤i)(h1:i≤1000000):Builtin.Range.rangeFitsLong i=true:=by
 unfold Builtin.Range.rangeFitsLong
 rw[decide_eq_true (by exact aB [] [_] (.le (.g (.n 1000000)) .w) 1 (.le (.g (.n 9223372036854775808)) .w) 0 qq h0),decide_eq_true (by exact aB [] [_] (.le .w (.n 1000000)) 1 (.lt .w (.n 9223372036854775808)) 0 qq h1)];rfl
theorem l0{a b d:Int}{n:Nat}(h0:0≤a)(h1:a≤100000)(h2:0≤b)(h3:b≤100000)(h4:0<d)(h5:d≤100000)(hn:n≤100000)(hs:Builtin.Range.rangeSize a b d=n):Builtin.Range.small a b d=true:=by
 unfold Builtin.Range.small
 rw[hs,jY (by exact aB [] [_] (.le (.n 0) .w) 1 (.le (.g (.n 1000000)) .w) 0 qq h0) (by exact aB [] [_] (.le .w (.n 100000)) 1 (.le .w (.n 1000000)) 0 qq h1),jY (by exact aB [] [_] (.le (.n 0) .w) 1 (.le (.g (.n 1000000)) .w) 0 qq h2) (by exact aB [] [_] (.le .w (.n 100000)) 1 (.le .w (.n 1000000)) 0 qq h3),jY (by exact aB [] [_] (.lt (.n 0) .w) 1 (.le (.g (.n 1000000)) .w) 0 qq h4) (by exact aB [] [_] (.le .w (.n 100000)) 1 (.le .w (.n 1000000)) 0 qq h5),jY (by exact aZ [_] [] (.le (.g (.n 1000000)) (.c .w)) 0 qq) (by exact aB [_] [] (.Le .w (.n 100000)) 1 (.le (.c .w) (.n 1000000)) 0 qq hn),if_pos h4,jY (by exact aI [] [_,_] (.le (.n 0) .w) 1 (.lt (.n 0) .x) 1 (.le (.g (.n 1000000)) (.a .w (.s .x (.n 1)))) 0 qq h2 h4) (by exact aI [] [_,_] (.le .w (.n 100000)) 1 (.le .x (.n 100000)) 1 (.le (.a .w (.s .x (.n 1))) (.n 1000000)) 0 qq h3 h5)]
 simp
noncomputable def gH(a n:Nat):List V:=(List.range' a n).map fun(i:Nat)=>V.int i
theorem cX{a n:Nat}(ha:a≤10000)(hn:n≤10000):sW (.rng (a:Int) ((a+n:Nat):Int) 1) (gH a n):=by
 have h2:Builtin.Range.rangeSize (a:Int) ((a+n:Nat):Int) 1=n:=by
  unfold Builtin.Range.rangeSize
  rw[if_pos (by decide)]
  split<;>(first|(clear hn ha;lia -abstractProof)|exact Int.le_antisymm (aZ [_] [] (.le (.n 0) (.c .w)) 0 qq) (aB [_,_] [] (.nlt (.c .x) (.c (.a .x .w))) 1 (.le (.c .w) (.n 0)) 0 qq ‹_›))
 have:=sW.rng (l0 (by exact aZ [_] [] (.le (.n 0) (.c .w)) 0 qq) (by exact aB [_] [] (.Le .w (.n 10000)) 1 (.le (.c .w) (.n 100000)) 0 qq ha) (by exact aZ [_,_] [] (.le (.n 0) (.c (.a .w .x))) 0 qq) (by exact aI [_,_] [] (.Le .w (.n 10000)) 1 (.Le .x (.n 10000)) 1 (.le (.c (.a .w .x)) (.n 100000)) 0 qq ha hn) (by exact of_decide_eq_true rfl) (by exact of_decide_eq_true rfl) (by exact aB [_] [] (.Le .w (.n 10000)) 1 (.Le .w (.n 100000)) 0 qq hn) h2) h2
 unfold gH
 rw[List.range'_eq_map_range,List.map_map]
 have e:((fun(i:Nat)=>V.int i)∘fun x=>a+x)=fun(i:Nat)=>V.int ((a:Int)+(i:Int)*1):=by
  funext i
  exact congrArg V.int (show((a+i:Nat):Int)=(a:Int)+(i:Int)*1 by exact d9 [_,_] [] (.eq (.c (.a .w .x)) (.a (.c .w) (.m (.c .x) (.n 1)))) qq)
 rw[e]
 exact this
theorem iK(a n:Nat):(gH a n).length=n:=by unfold gH;rw[List.length_map,List.length_range']
noncomputable def aW(l:List Rg)(n:Nat):List Str:=(List.range n).map fun(i:Nat)=>d7 l i
theorem i7(l:List Rg)(n:Nat):(aW l n).length=n:=by unfold aW;rw[List.length_map,List.length_range]
theorem jI(l:List Rg)(n:Nat):aW l (n+1)=aW l n++[d7 l n]:=by unfold aW;rw[List.range_succ,List.map_append];rfl
noncomputable def Ht(x0 x1:Option V):List (Str×Slot):=[("ranges",.cel x0),("count",.loc x1),("range",.glob)]
theorem xZ{g:Gx}(P:PF g){l:List Rg}(hk:∀r∈l,vS r){n:Nat}(hn:n≤100):Pure g 4 (P.fa 49) [.lst (l.map Rg.v),.int n] (.lst (V.strs (aW l n))):=by
 refine aN (ps:=["ranges", "count"]) (P.i 49 rfl) (P.j 49 rfl) (fun _ _ _=>rfl) rfl fun c RR hRR hl hcel hcode hpins=>?_
 ·refine(?_:WX _ _ ⟨Ht (some _) (some _),_⟩ _ _)
  refine aO (dZ (.loc (.loc (.glob (.fre .cel .nil)))) (bH (aL P.b_range .type 2 rfl (a8 (a9 1 rfl (aA (fC ?_)))))))
  refine⟨gH 0 n,?_,?_,rfl,fun r ys own=>cW (fun a b=>a+b=n) (fun a b=>r=gH a b) (fun a b=>ys=V.strs (aW l a)) (fun a b=>own=[]),⟨0,n,Nat.zero_add n,rfl,rfl,rfl⟩,?_,?_⟩
  ·have:=cX (a:=0) (n:=n) (by exact of_decide_eq_true rfl) (by exact aB [_] [] (.Le .w (.n 100)) 1 (.Le .w (.n 10000)) 0 qq hn);rwa [Nat.zero_add] at this
  ·rw[iK];exact Nat.le_trans hn (by decide)
  ·intro JJ1 hJJ1 x r ys own z0
   refine cW.e z0 fun a b e4 e5 e6 z1=>?_
   clear z0
   subst z1
   intro e ps B
   cases b with
   |zero=>cases e5
   |succ b=>
    cases e5
    refine bE 1 rfl (f6 ?_)
    refine fV rfl (aX (P.i 48 rfl) 2 rfl (a8 (a9 3 rfl (a8 (a9 1 rfl (aA ?_))))))
    refine⟨3,_,show 3≤c.lvl by exact lv hl,sA (g:=g) P hk (by exact aZ [_] [] (.le (.n 0) (.c .w)) 0 qq) (by exact aI [_,_,_] [] (.Le .x (.n 100)) 1 (.Eq (.a .w (.a .y (.n 1))) .x) 1 (.le (.c .w) (.n 100)) 0 qq hn e4),?_⟩
    refine hJJ1 _ _ _ ?_;exact⟨a+1,b,by exact cA [_,_,_] [] (.Eq (.a .w (.a .x (.n 1))) .y) 1 (.Eq (.a (.a .w (.n 1)) .x) .y) qq e4,rfl,by rw[e6,jI];unfold V.strs;rw[List.map_append];rfl,rfl⟩
  ·intro ys own z0
   refine cW.e z0 fun a b e4 e5 z1 z2=>?_
   clear z0
   subst z1
   subst z2
   cases b with
   |succ b=>cases e5
   |zero=>
    obtain rfl:a=n:=by exact cA [_,_] [] (.Eq (.a .w (.n 0)) .x) 1 (.Eq .w .x) qq e4
    refine hRR _ _ ?_;exact⟨rfl,rfl⟩
theorem q7(t:Str):cC t= .none∨∃n,cC t= .int n:=by unfold cC;split;exact .inr ⟨_,rfl⟩;exact .inl rfl
theorem n8(t:Str):bB t= .none∨∃n,bB t= .int n:=by unfold bB;split;exact .inl rfl;split;exact .inr ⟨_,rfl⟩;exact .inl rfl
theorem n9(t:Str):bQ t= .none∨∃n,bQ t= .int n:=by unfold bQ;split;exact .inl rfl;split;exact .inl rfl;exact .inr ⟨_,rfl⟩
theorem kQ(s t:Str):cB s t= .none∨∃n,cB s t= .int n:=by
 unfold cB
 split
 ·exact n9 _
 ·split
  ·exact .inl rfl
  ·split
   ·exact q7 _
   ·exact n8 _
noncomputable def eK(r:Rg)(t:Str):Str:=S (t.cps.toList.drop r.pre.length)
noncomputable def C5(r:Rg)(e:Int):V→Int
 | .int n=>if r.start≤n∧n<r.start+e-r.first then r.first+n-r.start else -1
 |_=> -1
theorem lQ(r:Rg)(e n:Int):C5 r e (.int n)=if r.start≤n∧n<r.start+e-r.first then r.first+n-r.start else -1:=rfl
noncomputable def eY(r:Rg)(e:Int)(t:Str):Int:=
 if e≤r.first∨Txt.startswith t r.pre=false then -1 else
  if(r.style== "")=true then(if(eK r t== "")=true then r.first else -1) else C5 r e (cB r.style (eK r t))
theorem AK{r:Rg}{t:Str}(h:fM t):fM (eK r t):=fun c hc=>h c (List.mem_of_mem_drop (show c∈t.cps.toList.drop r.pre.length from hc))
theorem yN(r:Rg)(t:Str):(eK r t).length≤t.length:=by unfold eK;rw[iZ,List.length_drop,←len_list];exact(Nat.sub_le _ _)
noncomputable def Hs(x0 x1 x2:Option V):List (Str×Slot):=[("one",.loc x0),("end",.loc x1),("text",.loc x2),("first",.loc none),("style",.loc none),("prefix",.loc none),("start",.loc none),("rest",.loc none),("number",.loc none),("len",.glob),("read_shown",.glob)]
theorem sC{g:Gx}(P:PF g){r:Rg}{e:Int}{t:Str}(hp:r.pre.length≤10)(hz:t.length≤30000)(ho:fM t):Pure g 4 (P.fa 50) [r.v,.int e,.str t] (.int (eY r e t)):=by
 refine aN (ps:=["one", "end", "text"]) (P.i 50 rfl) (P.j 50 rfl) (fun _ _ _ _=>rfl) rfl fun c RR hRR hl hcel hcode hpins=>?_
 ·refine(?_:WX _ _ ⟨Hs (some _) (some _) (some _),_⟩ _ _)
  refine aU (mZ ?_)
  refine a9 0 rfl (gW (.cons (.cons (.cons (.cons .nil)))) (.cons (aR 3 rfl) (.cons (aR 4 rfl) (.cons (aR 5 rfl) (.cons (aR 6 rfl) .nil)))) (bU ?_))
  refine WC.join (decide (e≤r.first∨Txt.startswith t r.pre=false)) ?_ ?_
  ·refine cZ (fO (aK (a9 3 rfl (a9 1 rfl (F3 (kb ?_))))))
   refine bL (fun _=>?_) (fun _=>?_)
   ·rename_i e1
    exact⟨(decide_eq_true (.inl (of_decide_eq_true e1))).symm,rfl⟩
   ·rename_i e1
    refine fO (fD (dP (aY (a9 2 rfl (eA sJ .builtin (a8 (a9 5 rfl (aA ?_))))))))
    refine uW (kb ?_)
    refine bL (fun _=>?_) (fun _=>?_)
    ·rename_i e2
     exact⟨(decide_eq_true (.inr (by simpa using e2))).symm,rfl⟩
    ·rename_i e2
     refine eF ?_
     exact⟨(decide_eq_false fun q=>q.elim (fun q=>e1 (decide_eq_true q)) fun q=>e2 (by rw[q];rfl)).symm,rfl⟩
  ·refine bL (fun _=>?_) (fun _=>?_)
   ·rename_i e1
    refine aO (kJ (aC (bO (hRR _ _ ?_))))
    exact⟨by unfold eY;rw[if_pos (of_decide_eq_true e1)],rfl⟩
   ·rename_i e1
    have e1:=of_decide_eq_false (Bool.eq_false_iff.mpr e1)
    refine aF (aM (kK (a9 2 rfl (eX (aL P.b_len .builtin 9 rfl (a8 (a9 5 rfl (aA ?_))))))))
    refine fY (by exact Nat.le_trans hp (by decide)) (nE (jU ?_))
    refine⟨_,.str (Nat.le_trans hz (by decide)),?_⟩
    rw[tD]
    refine d8 7 rfl (bU (aK (a9 4 rfl (aE (bX (kb ?_))))))
    refine bL (fun _=>?_) (fun _=>?_)
    ·rename_i e2
     refine aO (iB (aK (a9 7 rfl (aE (bX (kb ?_))))))
     refine bL (fun _=>?_) (fun _=>?_)
     ·rename_i e3
      refine a9 3 rfl (hRR _ _ ?_)
      exact⟨by unfold eY;rw[if_neg e1,if_pos e2,if_pos (show(eK r t== "")=true from e3)],rfl⟩
     ·rename_i e3
      refine kJ (aC (bO (hRR _ _ ?_)))
      exact⟨by unfold eY;rw[if_neg e1,if_pos e2,if_neg (show¬(eK r t== "")=true from e3)],rfl⟩
    ·rename_i e2
     refine aF (aM (aX (P.i 46 rfl) 10 rfl (a8 (a9 4 rfl (a8 (a9 7 rfl (aA ?_)))))))
     refine⟨3,_,by exact lv hl,vG (text:=eK r t) P (Nat.le_trans (yN r t) hz) (AK ho),?_⟩
     refine d8 8 rfl (bU (cZ (fO (aK (a9 8 rfl (cE (dM (kb ?_))))))))
     refine bI ?_
     have hI:eY r e t=C5 r e (cB r.style (eK r t)):=by unfold eY;rw[if_neg e1,if_neg e2]
     rw[hI] at hRR
     rcases kQ r.style (eK r t) with h|⟨n,h⟩
     ·rw[h] at hRR ⊢
      exact cU rfl (hH rfl (aO (kJ (aC (bO (hRR _ _ (⟨rfl,rfl⟩)))))))
     ·rw[h] at hRR ⊢
      refine bK rfl (fO (fD (vO (a9 6 rfl (a9 8 rfl (yW (kb ?_)))))))
      refine bL (fun _=>?_) (fun _=>?_)
      ·rename_i e3
       refine aD (aD (a9 6 rfl (a9 1 rfl (aJ (a9 3 rfl (bN (q9 (kb ?_))))))))
       refine bL (fun _=>?_) (fun _=>?_)
       ·rename_i e4
        refine hH rfl (aO (kJ (aC (bO (hRR _ _ ?_)))))
        refine⟨?_,rfl⟩
        rw[lQ,if_neg fun q=>by rw[decide_eq_true q.2] at e4;cases e4]
       ·rename_i e4
        refine eF (gK rfl (aF (aO (aD (aD (a9 3 rfl (a9 8 rfl (aJ ?_))))))))
        refine a9 6 rfl (bN (hRR _ _ ?_))
        refine⟨?_,rfl⟩
        rw[lQ,if_pos ⟨of_decide_eq_true e3,by simpa using e4⟩]
      ·rename_i e3
       refine Ai rfl (hH rfl (aO (kJ (aC (bO (hRR _ _ ?_))))))
       refine⟨?_,rfl⟩
       rw[lQ,if_neg fun q=>e3 (decide_eq_true q.1)]
noncomputable def nM(l:List Rg)(n:Int):Int:=match l with
 | []=>n
 |r::_=>r.first
noncomputable def nC(a b:Int):Int:=if b<a then b else a
noncomputable def kG(n:Int)(t:Str):List Rg→Int→Int
 | [],f=>f
 |r::l,f=>kG n t l (if(f== -1)=true then eY r (nC (nM l n) n) t else f)
theorem lV{n t r l f}:kG n t (r::l) f=kG n t l (if(f== -1)=true then eY r (nC (nM l n) n) t else f):=rfl
noncomputable def EW:Rg:=⟨0, "D", "",1⟩
noncomputable def gF(l:List Rg)(n:Int)(t:Str):Int:=kG n t l (eY EW (nC (nM l n) n) t)
noncomputable def lE(l:List Rg)(n:Int):List V:=(l.map fun r=>V.int r.first)++[V.int n]
theorem tX:∀(pre l:List Rg) (n:Int),(lE (pre++l) n)[pre.length]? =some (.int (nM l n))
 | [],[],n=>rfl
 | [],r::l,n=>rfl
 |p::pre,l,n=>by
  have:=tX pre l n
  unfold lE at this ⊢
  rw[List.cons_append,List.map_cons,List.cons_append,List.length_cons,List.getElem?_cons_succ]
  exact this
theorem zJ(l:List Rg)(n:Int):(lE l n).length=l.length+1:=by unfold lE;rw[List.length_append,List.length_map];rfl
noncomputable def GB(x0 x1 x2 x3 x4 x5:Option V):List (Str×Slot):=[("ranges",.loc x0),("count",.loc x1),("text",.loc x2),("ends",.loc x3),("found",.loc x4),("at",.loc x5),("index_in",.glob),("min",.glob),("range",.glob),("len",.glob)]
theorem sB{g:Gx}(P:PF g){l:List Rg}{n:Int}{t:Str}(hl4:l.length≤50)(hk:∀r∈l,vS r)(hz:t.length≤30000)(ho:fM t):Pure g 5 (P.fa 51) [.lst (l.map Rg.v),.int n,.str t] (.int (gF l n t)):=by
 refine aN (ps:=["ranges", "count", "text"]) (P.i 51 rfl) (P.j 51 rfl) (fun _ _ _ _=>rfl) rfl fun c RR hRR hl hcel hcode hpins=>?_
 ·refine(?_:WX _ _ ⟨GB (some _) (some _) (some _) none none none,_⟩ _ _)
  refine aM (aD (dZ (.loc (.loc .nil)) (bH (a9 0 rfl ?_))))
  refine⟨_,.lst,B3 l (Rg.v) (fun r=>V.int r.first) (R:=l.map fun r=>V.int r.first) rfl rfl (Nat.le_trans hl4 (by decide)) (fun y hm_ J_ ys hJ_ e ps B=>?_) ?_⟩
  ·refine bE 1 rfl (f6 ?_)
   exact fV rfl (aV (a9 1 rfl (aC (cD (j:=0) (x:= .int y.first) rfl rfl (by decide) (by decide) (hJ_)))))
  refine cF (a8 (a9 1 rfl (aA (eB rfl ?_))))
  refine jW ?_ (by rw[List.length_map];exact Nat.le_trans (Nat.add_le_add_right hl4 1) (by decide))
  have hat:∀pre b:List Rg,l=pre++b→pre.length≤50∧seqIndex? ((pre.length:Nat):Int) (lE l n).length=some pre.length∧(lE l n)[pre.length]? =some (.int (nM b n)):=fun pre b e=>by
   have h1:pre.length≤l.length:=by rw[e,List.length_append];exact aZ [_,_] [] (.Le .w (.a .w .x)) 0 qq
   refine⟨by exact aI [_,_] [] (.Le .x (.n 50)) 1 (.Le .w .x) 1 (.Le .w (.n 50)) 0 qq hl4 h1,?_,by rw[e];exact tX pre b n⟩
   rw[bA (by exact aZ [_] [] (.le (.n 0) (.c .w)) 0 qq) (by rw[zJ];exact aB [_,_] [] (.Le .w .x) 1 (.lt (.c .w) (.c (.a .x (.n 1)))) 0 qq h1)];rfl
  refine d8 3 rfl (aM (aX (P.i 50 rfl) 6 rfl (a8 (bS (a8 (aC (a8 (aE ?_))))))))
  refine a8 (aE (a8 (aC (aA (dA rfl (a8 (aL P.b_min .builtin 7 rfl (a8 ?_))))))))
  refine aV (a9 3 rfl (aC (o_item_lst (xs:=lE l n) (hat [] l rfl).2.1 (hat [] l rfl).2.2 (by decide) (by decide) (a8 (a9 1 rfl (aA (Cg (a8 ?_))))))))
  refine a9 2 rfl (aA ?_)
  refine⟨4,_,by exact lv hl,sC (r:=EW) P (by decide) hz ho,?_⟩
  refine d8 4 rfl ?_
  refine iJ ?_ ?_ ?_ ?_
  ·exact fun items σ=>jO (fun pre b (f:Int) w=>l=pre++b) (fun pre b (f:Int) w=>items=gH pre.length b.length) (fun pre b (f:Int) w=>kG n t b f=gF l n t) (fun pre b (f:Int) w=>σ=⟨GB (some (.lst (l.map Rg.v))) (some (.int n)) (some (.str t)) (some (.lst (lE l n))) (some (.int f)) w,[]⟩)
  ·refine bH (aL P.b_range .type 8 rfl (a8 (aL P.b_len .builtin 9 rfl (a8 (a9 0 rfl (aA ?_))))))
   refine bP (by rw[List.length_map];exact Nat.le_trans hl4 (by decide)) ?_
   refine aA (fC ?_)
   rw[List.length_map]
   refine⟨gH 0 l.length,?_,[],l,_,none,rfl,rfl,rfl,rfl⟩
   have:=cX (a:=0) (n:=l.length) (by exact of_decide_eq_true rfl) (by exact aB [_] [] (.Le .w (.n 50)) 1 (.Le .w (.n 10000)) 0 qq hl4);rwa [Nat.zero_add] at this
  ·intro JJ2 hJJ2 v r σ₁ z0
   refine jO.e z0 fun pre b f w e1 e2 e3 z1=>?_
   clear z0
   subst z1
   intro ps
   cases b with
   |nil=>cases e2
   |cons x b=>
    cases e2
    refine bE 5 rfl (bU (aK (a9 4 rfl (kJ (aC (bO (fA (kb ?_))))))))
    refine bI ?_
    have next:l=(pre++[x])++b:=by rw[List.append_assoc];exact e1
    have hlen:(pre++[x]).length=pre.length+1:=by rw[List.length_append];rfl
    refine bL (fun _=>?_) (fun _=>?_)
    ·rename_i e4
     refine aM (aX (P.i 50 rfl) 6 rfl (a8 (aV (a9 0 rfl (a9 5 rfl ?_)))))
     have hpl:pre.length≤50:=(hat pre (x::b) e1).1
     have hx:(l.map Rg.v)[pre.length]? =some x.v:=by rw[e1,List.map_append,List.getElem?_append_right (by rw[List.length_map];exact Nat.le_refl _),List.length_map,Nat.sub_self];rfl
     refine o_item_lst (j:=pre.length) (by rw[bA (by exact aZ [_] [] (.le (.n 0) (.c .w)) 0 qq) (by rw[List.length_map,e1,List.length_append,List.length_cons];exact aZ [_,_] [] (.lt (.c .w) (.c (.a .w (.a .x (.n 1))))) 0 qq)];rfl) hx (by exact aZ [_] [] (.le (.g (.n 9223372036854775808)) (.c .w)) 0 qq) (by exact aB [_] [] (.Le .w (.n 50)) 1 (.lt (.c .w) (.n 9223372036854775808)) 0 qq hpl) ?_
     refine a8 (aL P.b_min .builtin 7 rfl (a8 (aV (a9 3 rfl (aD (a9 5 rfl (aC (aJ ?_))))))))
     refine eT (hat _ b next) fun h1 h2 h3=>?_
     rw[hlen] at h1 h2 h3
     refine o_item_lst (j:=pre.length+1) (by rw[Int.natCast_add] at h2;exact h2) h3 (by exact aZ [_] [] (.le (.g (.n 9223372036854775808)) (.a (.c .w) (.n 1))) 0 qq) (by exact aB [_] [] (.Le (.a .w (.n 1)) (.n 50)) 1 (.lt (.a (.c .w) (.n 1)) (.n 9223372036854775808)) 0 qq h1) ?_
     refine a8 (a9 1 rfl (aA (Cg (a8 (a9 2 rfl (aA ?_))))))
     have ok:=hk x (by rw[e1];simp)
     refine⟨4,_,show 4≤c.lvl by exact lv hl,sC (g:=g) (r:=x) P ok.pl hz ho,?_⟩
     refine d8 4 rfl (aF (aF (hJJ2 _ _ ?_)))
     exact⟨pre++[x],b,_,_,next,congrArg (fun k=>gH k b.length) hlen.symm,by rw[←e3,lV,if_pos e4];rfl,rfl⟩
    ·rename_i e4
     exact aF (aF (hJJ2 _ _ (⟨pre++[x],b,f,_,next,congrArg (fun k=>gH k b.length) hlen.symm,by rw[←e3,lV,if_neg e4],rfl⟩)))
  ·intro σ₁ z0
   refine jO.e z0 fun pre b f w e1 e2 e3 z1=>?_
   clear z0
   subst z1
   cases b with
   |cons x b=>cases e2
   |nil=>
    refine aF (aO (a9 4 rfl (hRR _ _ ?_)))
    exact⟨by rw[←e3];rfl,rfl⟩
noncomputable def DR(k:Nat):List Stmt:=((PySem.Challenge.pw_nn0227_01.main.body[k]?).bind FO).getD []
noncomputable def F5(k j:Nat):Option (Arguments×List Stmt×Scope):=((DR k)[j]?).bind E3
noncomputable def C8(k j:Nat):List Stmt:=((F5 k j).map (·.2.1)).getD []
noncomputable def E5(k j:Nat):Arguments:=((F5 k j).map (·.1)).getD default
noncomputable def rL(k j:Nat):Scope:=((F5 k j).map (·.2.2)).getD default
structure Gw(g:Gx)(k j:Nat)(f:Addr)(fd:FuncData):Prop where
 fn:Bv g f fd (C8 k j)
 ps:fd.params=E5 k j
 sc:fd.scope=rL k j
 kd:fd.kwdefaults= .none
noncomputable def sG(g:Gx)(fd:FuncData)(items:Array Value):Prop:=jP (fun T o n=>fd.defaults= .ref T) (fun T o n=>g.T.get? T=some o) (fun T o n=>o.data= .seq items n)
theorem jM{g:Gx}{k j:Nat}{f:Addr}{fd:FuncData}{ps:List Str}{xs xs' :List V}{own:List (Addr×OV)}{X:XO}{Q:V→List (Addr×OV)→Prop}{n:Nat}{env₀:List (Str×Slot)}(hf:Gw g k j f fd)
  (hbind:∀B (s:Shared) vs,(∀a o,g.T.get? a=some o→s.heap.get? a=some o)→(∀a o,g.T.get? a=some o→B a=some o)→Reps g B xs vs→∃vs',BindsTo s fd ⟨vs,[]⟩ (ps.zip vs')∧Reps g B xs' vs')
  (hps:autoParam (ps.Nodup) mV) (hlen:autoParam (ps.length=xs'.length) c8) (hkind:autoParam (∀p∈ps,(p,NameKind.local)∈(rL k j).names∨(p,NameKind.cell)∈(rL k j).names) mV)
  (he:autoParam (j8 (ps.zip xs') (rL k j).names=env₀) c8)
  (h:∀c:Cx,∀R:V→List (Addr×OV)→Prop,(∀v o,Q v o→R v o)→(c.of g).lvl=n→kP (c.of g)→(c.of g).env.code=fd.code→(c.of g).pins=[]→WX (c.of g) (C8 k j) ⟨env₀,own⟩ (FX X) (FQ R)):aS g (n+1) (.val (.ref f)) xs own X Q:=
 s8 hf.fn hbind hps hlen (by rw[hf.sc];exact hkind) (by rw[hf.sc];exact he) h
theorem aS.sub{g:Gx}{n:Nat}{f:V}{xs:List V}{own:List (Addr×OV)}{X X' :XO}{Q Q' :V→List (Addr×OV)→Prop}(h:aS g n f xs own X Q)(hq:∀v o,Q v o→∃o',o'.Sublist o∧Q' v o')(hx:∀v o,X v o→∃o',o'.Sublist o∧X' v o'):aS g n f xs own X' Q' :=by
 intro A outer B s fv vs R r hc hf hv hR hX
 have cut:∀{o o' :List (Addr×OV)} {B' s'},o'.Sublist o→mJ g outer own o B s B' s'→mJ g outer own o' B s B' s' :=fun hs a=>
  {a with owns:=fun p hp=>a.owns p (hs.subset hp),nod:=a.nod.sublist (hs.map _),onB:=fun p hp=>a.onB p (hs.subset hp)}
 refine h A outer B s fv vs R r hc hf hv (fun v x o B' s' q hr ha=>?_) fun ea cls o B' s' q ha hF=>?_
 ·exact aH (hq x o q) fun o' hs q' =>hR v x o' B' s' q' hr (cut hs ha)
 ·refine aH (hx cls o q) fun o' hs q' =>?_
  have no:∀a,a∉o.map (·.1)→a∉o'.map (·.1):=fun a h1 h2=>h1 ((hs.map (·.1)).subset h2)
  refine aG hF fun z0 z1=>?_
  clear hF
  refine eT z0 fun f1 f2 f3=>?_
  clear z0
  refine lJ.e z1 fun oe vs' T oT ts e1 e2 e3 e4 e5 z4 e9 e10 e11=>?_
  clear z1
  refine eT z4 fun e6 e7 e8=>?_
  clear z4
  exact hX ea cls o' B' s' q' (cut hs ha) ⟨⟨f1,f2,no _ f3⟩,oe,vs',T,oT,ts,e1,e2,e3,e4,e5,⟨e6,e7,no _ e8⟩,e9,e10,e11⟩
theorem Pure.of{g:Gx}{n:Nat}{f:Addr}{xs:List V}{r:V}(h:aS g n (.val (.ref f)) xs [] cK fun v _=>v=r):Pure g n f xs r:=
 h.sub (fun v o e=>⟨[],List.nil_sublist _,e,rfl⟩) fun _ _ h=>h.elim
structure PE(g:Gx) where
 tf:Addr
 pi:Addr
 pfd:FuncData
 g_TreeFault:Gl g "TreeFault" (.val (.ref tf))
 g_Exception:Gl g "Exception" (.val (.type "Exception"))
 keep:keepIn g.K (.ref tf)=true
 exc:lI g tf pi
 excB:∀nm q N bs bm hdct sn sub ab col dd k0 k1 k2 k3 k5 newId,g.T.get? tf=some (excClassObj nm q tf N bs bm hdct sn sub ab col dd k0 k1 k2 k3 k5 newId)→(Value.ref tf::bm).contains (.type "Exception")=true
 what:pH g.K tf "what"
 at_:pH g.K tf "at"
 init:Gw g 2 0 pi pfd
 dflt:∃t,sG g pfd #[.int (-1) t]
 find:findCls g.K (.type "Exception") (.type "type") "__init__" =some (.val (.builtin "Exception.__init__"))
noncomputable def GO(x0 x1 x2:Option V):List (Str×Slot):=[("self",.loc x0),("what",.loc x1),("at",.loc x2),("Exception",.glob)]
theorem Fj{g:Gx}(P:PE g){e:Addr}{o:Obj}{m:Str}(ho:gX P.tf o)(hd:o.dict=none):aS g 1 (.val (.ref P.pi)) [.val (.ref e),.str m] [(e,.raw o)] cK (fun v own=>v= .none∧sF (fun d l o' =>own=[(d,.dct l),(e,.raw o')]) (fun d l o' =>gX P.tf o')):=by
 refine cI P.dflt fun t z0=>jP.e z0 fun T oT nT hT hg hdt=>?_
 clear z0
 refine jM (ps:=["self", "what", "at"]) (xs' :=[.val (.ref e),.str m,.int (-1)]) P.init (fun B s vs h1 h2 hr=>?_) (by decide) rfl (by decide) rfl fun c RR hRR hl hcel hcode hpins=>?_
 ·refine cJ.e hr.two fun v w z0 a b=>?_
  subst z0
  exact⟨[v,w,.int (-1) t],BindsTo.of_defaults hT (h1 _ _ hg) hdt (by unfold bindArgs;rw[P.init.ps,P.init.kd];rfl) rfl,.cons a (.cons b (.cons .int .nil))⟩
 ·refine(?_:WX _ _ ⟨GO (some _) (some _) (some _),_⟩ _ _)
  refine gZ (DO (bG 3 rfl P.g_Exception ?_))
  refine⟨_,EK (by rfl) (by decide+kernel) P.find (by rfl),.builtin,?_⟩
  refine a8 (a9 0 rfl (a8 (a9 1 rfl (aA ?_))))
  refine Bb (own' :=[]) P.exc P.excB ho fun o' ho' hd' =>⟨_,.here,?_⟩
  refine Aj ?_
  refine aU (wJ ?_)
  refine a9 1 rfl (a9 0 rfl ?_)
  refine⟨e,P.tf,o',rfl,P.what,ho',.inl ⟨hd'.trans hd,fun d=>⟨_,.here,?_⟩⟩⟩
  refine aU (wJ ?_)
  refine a9 2 rfl (a9 0 rfl ?_)
  refine⟨e,P.tf,withDict o' d,rfl,P.at_,ho'.withDict,.inr ⟨d,_,_,rfl,.skip .here,?_,?_,.here,?_⟩⟩
  ·exact show Str.ofString "at"∉[Str.ofString "what"] by decide
  ·exact Nat.le_of_ble_eq_true rfl
  exact aF (hRR _ _ (⟨rfl,d,_,_,rfl,ho'.withDict⟩))
theorem DW{g:Gx}(P:PE g){m:Str}:aS g 2 (.val (.ref P.tf)) [.str m] [] cK (fun v own=>E4x3 (fun e d l o' =>v= .val (.ref e)) (fun e d l o' =>own=[(d,.dct l),(e,.raw o')]) (fun e d l o' =>gX P.tf o')):=
 xO P.exc (Nat.le_of_ble_eq_true rfl) fun e o ho hd _=>(Fj P ho hd).mono fun v own ⟨h1,d,l,o',h2,h3⟩=>⟨h1,e,d,l,o',rfl,h2,h3⟩
theorem n6{c:Cx}{σ:St}{X:Value→St→Prop}{Q:Fl→St→Prop}(P:PE c.g){np sp p p' :Pos}{m:Str}{kd:Nat}(i:Nat)(hg:qE i σ.env=some (Str.ofString "TreeFault"))(hl:2≤c.lvl)(h:∀d l,X (.ref P.tf) ⟨σ.env,(d,.dct l)::σ.own⟩):
  W1 c (.Raise (some (.Call (.Name "TreeFault" np) [.Constant (.str m) kd sp] [] p)) none p') σ X Q:=by
 refine Dv P.exc (e_call (bG i hg P.g_TreeFault ⟨.inK P.keep,a8 (aE (aA ?_))⟩))
 refine pS (XC:=cK) cT.none hl (DW P) (fun x own' hn hq=>?_) (fun _ _ hx=>hx.elim)
 refine E4x3.e hq fun e d l o' z0 z1 ho' =>?_
 clear hq
 subst z0
 subst z1
 refine⟨e,o',(d,.dct l)::σ.own,rfl,?_,.skip .here,ho',h d l⟩
 have:=hn (e,.raw o') (by simp)
 exact this.resolve_left (by simp)
noncomputable def gO(last:Int)(r:Rg):Bool:=decide (r.first≤last)||(!(dF.any (·==r.style))||decide (r.start<1))
noncomputable def chk:Int→List Rg→Bool
 |_,[]=>true
 |last,r::l=> !gO last r&&chk r.first l
theorem Gb{q1}:chk q1 []=true:=rfl
theorem s7{last r l}:chk last (r::l)=(!gO last r&&chk r.first l):=rfl
noncomputable def EH(x0 x1 x2 x3 x4 x5:Option V):List (Str×Slot):=[("ranges",.loc x0),("last",.loc x1),("first",.loc x2),("style",.loc x3),("prefix",.loc x4),("start",.loc x5),("STYLES",.glob),("TreeFault",.glob)]
theorem vN{g:Gx}(P:PF g)(E:PE g){l:List Rg}:aS g 3 (.val (.ref (P.fa 52))) [.lst (l.map Rg.v)] [] (fun cls own=>(cls= .ref E.tf∧chk (-1) l=false)∧own=[]) (fun v own=>(v= .none∧chk (-1) l=true)∧own=[]):=by
 refine aS.sub (X:=fun cls _=>cls= .ref E.tf∧chk (-1) l=false) (Q:=fun v own=>v= .none∧chk (-1) l=true) ?_ (fun v o h=>⟨[],List.nil_sublist _,h,rfl⟩) (fun v o h=>⟨[],List.nil_sublist _,h,rfl⟩)
 refine aN (ps:=["ranges"]) (P.i 52 rfl) (P.j 52 rfl) (fun _ _=>rfl) rfl fun c RR hRR hl hcel hcode hpins=>?_
 ·refine(?_:WX _ _ ⟨EH (some _) none none none none none,_⟩ _ _)
  refine aM (kJ (aC (bO (d8 1 rfl ?_))))
  refine iJ ?_ ?_ ?_ ?_
  ·exact fun items σ=>A2 (fun r (last:Int) a b d e=>items=r.map Rg.v) (fun r (last:Int) a b d e=>chk last r=chk (-1) l) (fun r (last:Int) a b d e=>σ=⟨EH (some (.lst (l.map Rg.v))) (some (.int last)) a b d e,[]⟩)
  ·exact bH (a9 0 rfl (⟨_,.lst,l,_,none,none,none,none,rfl,rfl,rfl⟩))
  ·intro JJ1 hJJ1 v r σ₁ z0
   refine A2.e z0 fun r' last a b d e h1 h2 z1=>?_
   clear z0
   subst z1
   intro ps
   cases r' with
   |nil=>cases h1
   |cons x r' =>
    cases h1
    refine gW (.cons (.cons (.cons (.cons .nil)))) (.cons (aR 2 rfl) (.cons (aR 3 rfl) (.cons (aR 4 rfl) (.cons (aR 5 rfl) .nil)))) (bU ?_)
    refine WC.join (gO last x) ?_ ?_
    ·refine cZ (fO (aK (a9 2 rfl (a9 1 rfl (yW (kb ?_))))))
     refine bL (fun _=>?_) (fun _=>?_)
     ·rename_i e1;exact⟨by unfold gO;rw[e1];rfl,rfl⟩
     ·rename_i e1
      refine fO (aK (a9 3 rfl (bG 6 rfl P.g_STYLES (pP (kb ?_)))))
      refine bL (fun _=>?_) (fun _=>?_)
      ·rename_i e2;exact⟨by unfold gO;rw[Bool.eq_false_iff.mpr e1,e2];rfl,rfl⟩
      ·rename_i e2
       refine fO (aK (a9 5 rfl (aC (q9 (kb ?_)))))
       refine bL (fun _=>?_) (fun _=>?_)
       ·rename_i e3;exact⟨by unfold gO;rw[Bool.eq_false_iff.mpr e1,Bool.eq_false_iff.mpr e2,e3];rfl,rfl⟩
       ·rename_i e3;refine eF ?_;exact⟨by unfold gO;rw[Bool.eq_false_iff.mpr e1,Bool.eq_false_iff.mpr e2,Bool.eq_false_iff.mpr e3];rfl,rfl⟩
    ·refine bL (fun _=>?_) (fun _=>?_)
     ·rename_i e1
      refine aU (n6 (c:=(c.of g).pin ps) E 7 rfl (show 2≤c.lvl by exact lv hl) fun d l=>⟨rfl,?_⟩)
      rw[←h2,s7,e1];rfl
     ·rename_i e1
      refine aF (aM (a9 2 rfl (d8 1 rfl (aF (hJJ1 _ _ ?_)))))
      exact⟨r',_,_,_,_,_,rfl,by rw[←h2,s7,Bool.eq_false_iff.mpr e1];rfl,rfl⟩
  ·intro σ₁ z0
   refine A2.e z0 fun r' last a b d e h1 h2 z1=>?_
   clear z0
   subst z1
   cases r' with
   |cons x r' =>cases h1
   |nil=>
    exact aF (aF (hRR _ _ (⟨rfl,h2.symm⟩)))
section
variable {c:Cx}{σ:St}{X:Value→St→Prop}
theorem Cl{e:Expr}{Q:List V→St→Prop}(h:WE c e σ X fun x σ₁=>∃b:Array UInt8,x= .bytes b∧Q (b.toList.map fun u=> .int u.toNat) σ₁):mH c e σ X Q:=by
 intro B s Φ Ψ hc hΦ hΨ
 refine h B s _ _ hc (fun v x σ₁ B₁ s₁ hq hr hle hc₁=>?_) hΨ
 refine cI hq fun b z0=>?_
 clear hq
 refine aG z0 fun z2 hq=>?_
 clear z0
 subst z2
 cases hr with
 | @bytes b t=>
 refine KBw.pyIter_bytes ?_
 have gI:=hc₁.freshGhost
 have it:qX c.g B₁ s₁.heap.objs.size (b.toList.map fun u=>V.int u.toNat) 0 (s₁.heap.push {cls:= .type "bytes_iterator",data:= .fields #[.bytes b t,.int 0 0]}) [s₁.heap.objs.size]
   (fun i v=>∃c u,b[i]? =some c∧v= .int (c.toNat:Int) u) (fun i h=>KBw.IsBytesIter h s₁.heap.objs.size b t i):=by
  refine⟨fun A hA=>?_,fun i v p=>?_,⟨_,Heap.get?_push_size _ rfl,rfl,rfl⟩,fun a hb=> .inl (by simpa using hb),fun i h st=>?_⟩
  ·have w:=KBw.walks (prog:=c.g.prog) (w:=c.g.w) hA s₁.heap.objs.size b t
   rw[List.length_map,Array.length_toList]
   exact w
  ·refine cI p fun k z0=>?_
   clear p
   refine aH z0 fun u e1 z4=>?_
   clear z0
   subst z4
   exact⟨.int k.toNat,by rw[List.getElem?_map,Array.getElem?_toList,e1];rfl,.int⟩
  ·refine dT st fun o' q1 q2 q3=>?_
   clear st
   exact⟨o',_,q1,q2,by decide,fun v q=>by rw[q3] at q;cases q⟩
 exact hΦ _ _ _ _ _ _ B₁ _ hq it gI hle (hc₁.push _ _)
theorem yV{a b:Array UInt8}{Q:V→St→Prop}(h:Q (.bool (a.toList != b.toList)) σ):iX c (compareOp .NotEq) (.bytes a) (.bytes b) σ X Q:=by
 rintro B s ⟨u,v⟩ Φ Ψ ⟨hu,hv⟩ hc hΦ hΨ
 cases hu;cases hv
 exact ne_bytes (hΦ _ _ _ B _ h .bool (Fz.Le.refl B) hc)
end
noncomputable def t9(n:Nat):List Int:=if(65536:Int)≤n then [55296+((n:Int)-65536).fdiv 1024,56320+((n:Int)-65536).fmod 1024] else [n]
noncomputable def bZ(l:List Nat):List Int:=l.flatMap t9
noncomputable def oH(u:Int):List Int:=[u.fdiv 256,u.fmod 256]
theorem BG{n:Nat}(h:n<0x110000):∀u∈t9 n,0≤u∧u<65536:=by
 intro u hu
 unfold t9 at hu
 split at hu
 ·rename_i h1
  refine j4 (eR (n:=(n:Int)-65536) (w:=1024) (by omega) (by omega)) fun d1 d2 d3 d4 d5=>?_
  have:=Int.mul_fdiv_add_fmod ((n:Int)-65536) 1024
  simp only[List.mem_cons,List.not_mem_nil,or_false] at hu
  exact⟨m0 hu (fun q0=>eQ [_] [_,_,_] (.lt .x (.n 1024)) 1 (.eq (.a (.m (.n 1024) .y) .x) (.s (.c .w) (.n 65536))) (.negSucc 0) (.eq .w (.a (.n 55296) .y)) (.negSucc 1023) (.le (.n 0) .w) 1023 qq d5 this q0) (fun q0=>aI [] [_,_] (.le (.n 0) .x) 1 (.eq .w (.a (.n 56320) .x)) (.negSucc 0) (.le (.n 0) .w) 0 qq d3 q0),m0 hu (fun q0=>uT [_] [_,_,_] (.Lt .w (.n 1114112)) 1 (.le (.n 0) .x) 1 (.eq (.a (.m (.n 1024) .y) .x) (.s (.c .w) (.n 65536))) 1 (.eq .w (.a (.n 55296) .y)) 1024 (.lt .w (.n 65536)) 1023 qq h d3 this q0) (fun q0=>aI [] [_,_] (.lt .x (.n 1024)) 1 (.eq .w (.a (.n 56320) .x)) 1 (.lt .w (.n 65536)) 0 qq d5 q0)⟩
 ·simp only[List.mem_cons,List.not_mem_nil,or_false] at hu;exact⟨aB [_] [_] (.eq .w (.c .w)) (.negSucc 0) (.le (.n 0) .w) 0 qq hu,aI [_] [_] (.nle (.n 65536) (.c .w)) 1 (.eq .w (.c .w)) 1 (.lt .w (.n 65536)) 0 qq ‹_› hu⟩
theorem qZ{l:List Nat}(h:∀n∈l,n<0x110000):∀u∈bZ l,0≤u∧u<65536:=fun u hu=>by
 exact aH (List.mem_flatMap.mp hu) fun n hn hu=>BG (h n hn) u hu
theorem uO{u:Int}(h0:0≤u)(h1:u<65536):∀n∈oH u,0≤n∧n<256:=by
 intro n hn
 refine j4 (eR (n:=u) (w:=256) h0 (by omega)) fun d1 d2 d3 d4 d5=>?_
 have:=Int.mul_fdiv_add_fmod u 256
 simp only[oH,List.mem_cons,List.not_mem_nil,or_false] at hn
 exact⟨m0 hn (fun q0=>eQ [] [_,_,_,_] (.le .x .y) 1 (.eq (.a (.m (.n 256) .z) .x) .y) (.negSucc 0) (.eq .w .z) (.negSucc 255) (.le (.n 0) .w) 255 qq d4 this q0) (fun q0=>aI [] [_,_] (.le (.n 0) .x) 1 (.eq .w .x) (.negSucc 0) (.le (.n 0) .w) 0 qq d3 q0),m0 hn (fun q0=>uT [] [_,_,_,_] (.lt .x (.n 65536)) 1 (.le (.n 0) .y) 1 (.eq (.a (.m (.n 256) .z) .y) .x) 1 (.eq .w .z) 256 (.lt .w (.n 256)) 255 qq h1 d3 this q0) (fun q0=>aI [] [_,_] (.lt .x (.n 256)) 1 (.eq .w .x) 1 (.lt .w (.n 256)) 0 qq d5 q0)⟩
theorem AC(n:Nat):(t9 n).length≤2:=by unfold t9;split<;>simp
theorem gJ:∀l:List Nat,(bZ l).length≤2*l.length
 | []=>Nat.le_refl _
 |n::l=>by
  have:=gJ l
  have:=AC n
  simp only[bZ,List.flatMap_cons,List.length_append,List.length_cons] at*
  exact aI [_,_,_] [] (.Le .x (.m 2 .y)) 1 (.Le .w (.n 2)) 1 (.Le (.a .w .x) (.m 2 (.a .y (.n 1)))) 0 qq ‹_› this
theorem gM(a b:List Int):V.ints (a++b)=V.ints a++V.ints b:=List.map_append ..
theorem cQ(a:List Int):(V.ints a).length=a.length:=List.length_map ..
noncomputable def EG(x0 x1 x2 x3:Option V):List (Str×Slot):=[("text",.loc x0),("units",.loc x1),("sign",.loc x2),("code",.loc x3),("ord",.glob)]
theorem zP{g:Gx}(P:PF g){text:Str}(hz:text.length≤1000):Pure g 1 (P.fa 53) [.str text] (.lst (V.ints (bZ text.cps.toList))):=by
 refine aN (ps:=["text"]) (P.i 53 rfl) (P.j 53 rfl) (fun _ _=>rfl) rfl fun c RR hRR hl hcel hcode hpins=>?_
 ·refine(?_:WX _ _ ⟨EG (some _) none none none,_⟩ _ _)
  refine aM ?_
  refine iA (aA ⟨by decide,fun a ha=>?_⟩)
  refine d8 1 rfl ?_
  refine iJ ?_ ?_ ?_ ?_
  ·exact fun items σ=>E4x3 (fun p r w1 w2=>text.cps.toList=p++r) (fun p r w1 w2=>items=r.map (fun n=>V.str (lW n))) (fun p r w1 w2=>σ=⟨EG (some (.str text)) (some (.val (.ref a))) w1 w2,[(a,.lst (V.ints (bZ p)))]⟩)
  ·exact bH (a9 0 rfl (⟨_,.str,[],_,none,none,rfl,rfl,rfl⟩))
  ·intro JJ1 hJJ1 v r σ₁ z0
   refine E4x3.e z0 fun p r' w1 w2 e1 e2 z1=>?_
   clear z0
   subst z1
   intro ps
   cases r' with
   |nil=>cases e2
   |cons n r' =>
    cases e2
    have hle:(V.ints (bZ p)).length≤2000:=by
     have h1:=gJ p
     have h2:p.length≤text.length:=by rw[len_list,e1,List.length_append];exact aZ [_,_] [] (.Le .w (.a .w .x)) 0 qq
     rw[cQ];exact eQ [_,_,_] [] (.Le .x (.n 1000)) 2 (.Le .w (.m 2 .y)) 1 (.Le .y .x) 2 (.Le .w (.n 2000)) 0 qq hz h1 h2
    have next:text.cps.toList=(p++[n])++r' :=by rw[List.append_assoc];exact e1
    have hun:∀x,t9 n=x→V.ints (bZ (p++[n]))=V.ints (bZ p)++V.ints x:=fun x hx=>by
     unfold bZ;rw[List.flatMap_append,gM,List.flatMap_cons,List.flatMap_nil,List.append_nil,hx]
    refine bE 2 rfl (aM (aL P.b_ord .builtin 4 rfl (a8 (a9 2 rfl (aA (Cf (d8 3 rfl (bU ?_))))))))
    refine aK (a9 3 rfl (aC (F3 (kb ?_))))
    refine bL (fun _=>?_) (fun _=>?_)
    ·rename_i e3
     refine gZ (aY (a9 1 rfl (eA (lK (.here)) .builtin (a8 (cF (a8 (aD (aC ?_))))))))
     refine aD (aD (a9 3 rfl (aC (bN (aC (cL (by decide) (PyProof.noPylong_small (by decide)) (aJ (a8 ?_))))))))
     refine aD (aC (aD (aD (a9 3 rfl (aC (bN (aC (bW (by decide) ?_))))))))
     refine aJ (aA (eB rfl (aA (nH (ys:=V.ints [_,_]) .here (Nat.le_trans (Nat.add_le_add_right hle 2) (by decide)) (Aj (aF (aF (hJJ1 _ _ ?_))))))))
     exact⟨p++[n],r',_,_,next,rfl,by rw[hun _ (if_pos (of_decide_eq_true e3))];rfl⟩
    ·rename_i e3
     refine gZ (aY (a9 1 rfl (eA (fW (.here)) .builtin (a8 (a9 3 rfl (aA (iW .here (Nat.le_trans hle (by decide)) (Aj ?_))))))))
     refine aF (aF (hJJ1 _ _ ?_))
     exact⟨p++[n],r',_,_,next,rfl,by rw[hun _ (if_neg fun q=>e3 (decide_eq_true q))];rfl⟩
  ·intro σ₁ z0
   refine E4x3.e z0 fun p r' w1 w2 e1 e2 z1=>?_
   clear z0
   subst z1
   cases r' with
   |cons n r' =>cases e2
   |nil=>
    rw[List.append_nil] at e1
    subst e1
    refine aF ?_
    refine aU (Ac (WE.frz ?_))
    exact a9 1 rfl (⟨a,_,_,_,_,_,ha,.here,.lst,.same,.here,hRR _ _ ⟨rfl,rfl⟩⟩)
noncomputable def kF(l:List Nat):Bool:=l.all fun n=>decide (n≤127)
noncomputable def wY:Array UInt8:= #[254,255]
noncomputable def mD(l:List Nat):List Int:=l.map fun(n:Nat)=>(n:Int)
noncomputable def aQ(l:List Nat):Array UInt8:=if kF l=true then byteArr (mD l) else wY++byteArr ((bZ l).flatMap oH)
theorem jV:∀l:List Int,(l.flatMap oH).length=2*l.length
 | []=>rfl
 |n::l=>by rw[List.flatMap_cons,List.length_append,jV l,List.length_cons];show 2+_=_;exact d9 [_] [] (.Eq (.a (.n 2) (.m 2 .w)) (.m 2 (.a .w (.n 1)))) qq
noncomputable def EF(x0 x1 x2:Option V):List (Str×Slot):=[("text",.loc x0),("octets",.loc x1),("unit",.loc x2),("bytes",.glob),("units_of",.glob),("MARK",.glob)]
theorem qG{g:Gx}(P:PF g){text:Str}(hz:text.length≤1000)(ho:fM text):Pure g 2 (P.fa 54) [.str text] (.bytes (aQ text.cps.toList)):=by
 refine Pure.of (aN (ps:=["text"]) (P.i 54 rfl) (P.j 54 rfl) (fun _ _=>rfl) rfl fun c RR hRR hl hcel hcode hpins=>?_)
 ·have hz' :((text.cps.toList.map fun n=>V.str (lW n)).length≤sizeLine):=by rw[List.length_map,←len_list];exact Nat.le_trans hz (by decide)
  refine(?_:WX _ _ ⟨EF (some _) none none,_⟩ _ _)
  refine bU ?_;refine aK ?_
  refine dZ (.loc (.loc (.glob .nil))) (bH (a9 0 rfl ?_))
  refine⟨_,.str,G0 text.cps.toList (fun n=>decide (127<n)) (fun n=>V.str (lW n)) (fun n=>V.str (lW n)) (R:=((text.cps.toList.filter fun n=>decide (127<n)).map lW).map V.str) rfl (by rw[List.map_map];rfl) (by rw[List.length_map] at hz';exact hz') (fun n hm_ J_ ys hJ_ e ps B=>?_) ?_⟩
  ·refine bE 1 rfl (A7 ?_)
   refine aK (aL P.b_ord .builtin 2 rfl (a8 (a9 1 rfl (aA (Cf (aC (qA (kb ?_))))))))
   refine bL (fun _=>?_) (fun _=>?_)
   ·rename_i e7
    refine a9 1 rfl ?_
    have e7:decide (127<n)=true:=decide_eq_true (by have:=of_decide_eq_true e7;exact aB [_] [] (.lt (.n 127) (.c .w)) 1 (.Lt (.n 127) .w) 0 qq this)
    rw[if_pos e7] at hJ_;exact hJ_
   ·rename_i e7
    have e7:¬decide (127<n)=true:=fun q=>e7 (decide_eq_true (by have:=of_decide_eq_true q;exact aB [_] [] (.Lt (.n 127) .w) 1 (.lt (.n 127) (.c .w)) 0 qq this))
    rw[if_neg e7] at hJ_;exact hJ_
  refine cF (aA ⟨by decide,l6 (r:=[]) v9 (fun x hx=>?_) (fun x hx=>nomatch hx) ⟨_,rfl,?_⟩⟩)
  ·refine aH (List.mem_map.mp hx) fun n hn z2=>?_
   subst z2
   exact ho.ch (List.mem_filter.mp hn).1
  have hA:decide ((text.cps.toList.filter fun n=>decide (127<n)).map lW=[])=kF text.cps.toList:=by
   rw[Bool.eq_iff_iff,decide_eq_true_iff,lC,kF,List.all_eq_true]
   exact forall₂_congr fun n _=>by rw[decide_eq_false_iff_not,decide_eq_true_iff];(clear hz' hcode hpins hcel hl hRR ho hz;lia -abstractProof)
  rw[hA]
  refine bL (fun _=>?_) (fun _=>?_)
  ·rename_i e8
   refine aO (aL P.b_bytes .type 3 rfl (a8 (dZ (.loc (.loc (.glob .nil))) (bH (a9 0 rfl ?_)))))
   refine⟨_,.str,B3 text.cps.toList (fun n=>V.str (lW n)) (fun(n:Nat)=>V.int n) (R:=V.ints (mD text.cps.toList)) rfl (by unfold V.ints mD;rw[List.map_map];rfl) (by rw[List.length_map] at hz';exact hz') (fun n hm_ J_ ys hJ_ e ps B=>?_) ?_⟩
   ·refine bE 1 rfl (f6 ?_)
    exact fV rfl (aL P.b_ord .builtin 2 rfl (a8 (a9 1 rfl (aA (Cf (hJ_))))))
   refine aA ?_
   refine Al (fun n hn=>?_) (by unfold mD;rw[List.length_map,←len_list];exact Nat.le_trans hz (by decide)) (hRR _ _ (show V.bytes _=V.bytes _ by unfold aQ;rw[if_pos e8]))
   refine aH (List.mem_map.mp hn) fun m hm z2=>?_
   subst z2
   have:=of_decide_eq_true (List.all_eq_true.mp e8 m hm)
   exact⟨aZ [_] [] (.le (.n 0) (.c .w)) 0 qq,aB [_] [] (.Le .w (.n 127)) 1 (.lt (.c .w) (.n 256)) 0 qq this⟩
  ·rename_i e8
   refine aF ?_;refine aM ?_
   refine iA (aA ⟨by decide,fun a ha=>?_⟩)
   refine d8 1 rfl ?_
   refine iJ ?_ ?_ ?_ ?_
   ·exact fun items σ=>jP (fun p r w1=>bZ text.cps.toList=p++r) (fun p r w1=>items=V.ints r) (fun p r w1=>σ=⟨EF (some (.str text)) (some (.val (.ref a))) w1,[(a,.lst (V.ints (p.flatMap oH)))]⟩)
   ·refine bH (aX (P.i 53 rfl) 4 rfl (a8 (a9 0 rfl (aA ?_))))
    refine⟨1,_,by exact lv hl,zP P hz,?_⟩
    exact⟨_,.lst,[],_,none,rfl,rfl,rfl⟩
   ·intro JJ3 hJJ3 v r σ₁ z0
    refine jP.e z0 fun p r' w1 e1 e2 z1=>?_
    clear z0
    subst z1
    intro ps
    cases r' with
    |nil=>cases e2
    |cons u r' =>
     cases e2
     have hle:(V.ints (p.flatMap oH)).length≤4000:=by
      have h1:=gJ text.cps.toList
      rw[←len_list,e1,List.length_append] at h1
      rw[cQ,jV];exact aI [_,_,_] [] (.Le .x (.n 1000)) 4 (.Le (.a .w .y) (.m 2 .x)) 2 (.Le (.m 2 .w) (.n 4000)) 0 qq hz h1
     refine bE 2 rfl (gZ (aY (a9 1 rfl (eA (lK (.here)) .builtin (a8 (cF (a8 (aD ?_))))))))
     refine a9 2 rfl (aC (cL (by decide) (PyProof.noPylong_small (by decide)) (a8 (aD (a9 2 rfl (aC (bW (by decide) (aA ?_))))))))
     refine eB rfl (aA (nH (ys:=V.ints [_,_]) .here (Nat.le_trans (Nat.add_le_add_right hle 2) (by decide)) (Aj (aF (hJJ3 _ _ ?_)))))
     exact⟨p++[u],r',_,by rw[List.append_assoc];exact e1,rfl,by rw[List.flatMap_append,gM,List.flatMap_cons,List.flatMap_nil,List.append_nil];rfl⟩
   ·intro σ₁ z0
    refine jP.e z0 fun p r' w1 e1 e2 z1=>?_
    clear z0
    subst z1
    cases r' with
    |cons n r' =>cases e2
    |nil=>
     rw[List.append_nil] at e1
     subst e1
     have hlen:=gJ text.cps.toList
     rw[←len_list] at hlen
     refine aF (aO (aD (bG 5 rfl P.g_MARK (aL P.b_bytes .type 3 rfl (a8 (a9 1 rfl (aA ?_)))))))
     refine Cj .here (fun n hn=>?_) (by rw[jV];exact Nat.le_trans (Nat.mul_le_mul_left 2 (Nat.le_trans hlen (Nat.mul_le_mul_left 2 hz))) (by decide)) ?_
     ·refine aH (List.mem_flatMap.mp hn) fun u hu hn=>?_
      have:=qZ ho u hu
      exact uO this.1 this.2 n hn
     exact wV (hRR _ _ (show V.bytes _=V.bytes _ by unfold aQ;rw[if_neg e8];rfl)) (by rw[byteArr_size,jV];exact Nat.le_trans (Nat.add_le_add_left (Nat.mul_le_mul_left 2 (Nat.le_trans hlen (Nat.mul_le_mul_left 2 hz))) 2) (by decide))
noncomputable def Cp(u:Int):Bool:=decide (55296≤u)&&decide (u<56320)
noncomputable def BD(u:Int):Bool:=decide (56320≤u)&&decide (u<57344)
noncomputable def rB(u:Int):Bool:=decide (55296≤u)&&decide (u<57344)
noncomputable def rK(u v:Int):Int:=65536+(u-55296)*1024+v-56320
noncomputable def dE:List Int→List Nat
 |u::v::l=>if(Cp u&&BD v)=true then(rK u v).toNat::dE l else if rB u=true then dE (v::l) else u.toNat::dE (v::l)
 | [u]=>if rB u=true then [] else [u.toNat]
 | []=>[]
theorem wD{u v l}:dE (u::v::l)=if(Cp u&&BD v)=true then(rK u v).toNat::dE l else if rB u=true then dE (v::l) else u.toNat::dE (v::l):=rfl
theorem BH{u}:dE [u]=if rB u=true then [] else [u.toNat]:=rfl
theorem wC:dE []=[]:=rfl
theorem wB{u v:Int}{l:List Int}(h:(Cp u&&BD v)=true):dE (u::v::l)=(rK u v).toNat::dE l:=by rw[wD];exact if_pos h
theorem yG{u:Int}{t:List Int}(h:∀v l,t=v::l→¬(Cp u&&BD v)=true):dE (u::t)=if rB u=true then dE t else u.toNat::dE t:=by
 cases t with
 |nil=>rw[BH,wC]
 |cons v l=>rw[wD];exact if_neg (h v l rfl)
theorem s3(l:List Nat):Txt.join "" (l.map lW)=S l:=by
 rw[show Txt.join "" (l.map lW)=Str.join "" (l.map lW) from beq_iff_eq.mp (join_closes rfl)]
 induction l with
 |nil=>rfl
 |cons a l ih=>
  cases l with
  |nil=>rfl
  |cons b l=>
   show lW a++ "" ++Str.join "" ((b::l).map lW)=_
   rw[ih]
   show Str.append (Str.append _ _) _=_
   simp[Str.append,lW,Str.ofString_eq_toList]
theorem uF(l:List Nat):((l.map lW).map (·.length)).sum=l.length:=by
 induction l with
 |nil=>rfl
 |cons a l ih=>rw[List.map_cons,List.map_cons,List.sum_cons,ih,List.length_cons];show 1+_=_;exact d9 [_] [] (.Eq (.a (.n 1) .w) (.a .w (.n 1))) qq
noncomputable def EE(x0 x1 x2 x3:Option V):List (Str×Slot):=[("units",.loc x0),("signs",.loc x1),("at",.loc x2),("is_high",.loc x3),("len",.glob),("chr",.glob)]
theorem qF{g:Gx}(P:PF g){us:List Int}(hz:us.length≤2000)(ho:∀u∈us,0≤u∧u<65536):Pure g 1 (P.fa 55) [.lst (V.ints us)] (.str (S (dE us))):=by
 refine Pure.of (aN (ps:=["units"]) (P.i 55 rfl) (P.j 55 rfl) (fun _ _=>rfl) rfl fun c RR hRR hl hcel hcode hpins=>?_)
 ·have hul:(V.ints us).length≤2000:=by rw[cQ];exact hz
  have hix:∀a:Nat,a<us.length→∃u,us[a]? =some u∧us.drop a=u::us.drop (a+1)∧0≤u∧u<65536∧seqIndex? (a:Int) (V.ints us).length=some a∧(V.ints us)[a]? =some (.int u):=fun a ha=>by
   have e:us[a]? =some us[a]:=List.getElem?_eq_getElem ha
   have hm:=ho us[a] (List.getElem_mem ha)
   refine⟨us[a],e,List.drop_eq_getElem_cons ha,hm.1,hm.2,?_,by unfold V.ints;rw[List.getElem?_map,e];rfl⟩
   rw[bA (by exact aZ [_] [] (.le (.n 0) (.c .w)) 0 qq) (by rw[cQ];exact aB [_,_] [] (.Lt .w .x) 1 (.lt (.c .w) (.c .x)) 0 qq ha)];rfl
  refine(?_:WX _ _ ⟨EE (some _) none none none,_⟩ _ _)
  refine aM ?_
  refine iA (aA ⟨by decide,fun s hs=>?_⟩)
  refine d8 1 rfl (aM (aC (d8 2 rfl ?_)))
  refine mS ?_ ?_ ?_ ?_
  ·exact fun n σ=>y9 (fun p (a:Nat) w=>n=us.length-a) (fun p (a:Nat) w=>a≤us.length) (fun p (a:Nat) w=>p.length≤a) (fun p (a:Nat) w=>p++dE (us.drop a)=dE us) (fun p (a:Nat) w=>σ=⟨EE (some (.lst (V.ints us))) (some (.val (.ref s))) (some (.int a)) w,[(s,.lst (V.strs (p.map lW)))]⟩)
  ·exact us.length
  ·exact⟨[],0,none,rfl,Nat.zero_le _,Nat.zero_le _,rfl,rfl⟩
  intro JJ1 hJJ1 n σ₁ z0
  refine y9.e z0 fun p a w z1 h1 h2 h3 z2=>?_
  clear z0
  subst z1
  subst z2
  refine aK (a9 2 rfl (aL P.b_len .builtin 4 rfl (a8 (a9 0 rfl (aA (bP (Nat.le_trans hul (by decide)) (q9 (kb ?_))))))))
  refine bL (fun _=>?_) (fun _=>?_)
  ·rename_i e1
   have ha:a<us.length:=by have:=of_decide_eq_true e1;rw[cQ] at this;exact aB [_,_] [] (.lt (.c .w) (.c .x)) 1 (.Lt .w .x) 0 qq this
   refine Cu (hix a ha) fun u u1 u2 u3 u4 u5 u6=>?_
   have hpl:(V.strs (p.map lW)).length≤sizeLine:=by unfold V.strs;rw[List.length_map,List.length_map];exact Nat.le_trans h2 (Nat.le_trans h1 (Nat.le_trans hz (by decide)))
   refine aM ?_
   refine WE.join (.bool (Cp u)) ?_ ?_
   ·refine DQ (aC (aV (a9 0 rfl (a9 2 rfl (o_item_lst u5 u6 (by exact aZ [_] [] (.le (.g (.n 9223372036854775808)) (.c .w)) 0 qq) (by exact aI [_,_] [] (.Le .x (.n 2000)) 1 (.Lt .w .x) 1 (.lt (.c .w) (.n 9223372036854775808)) 0 qq hz ha) (yW (kb ?_)))))))
    refine bL (fun _=>?_) (fun _=>?_)
    ·rename_i e2;refine aC ?_;refine q9 ?_;exact⟨by unfold Cp;rw[e2];rfl,rfl⟩
    ·rename_i e2;exact⟨by unfold Cp;rw[Bool.eq_false_iff.mpr e2];rfl,rfl⟩
   ·refine d8 3 rfl ?_;refine bU ?_
    refine WC.join (Cp u&&(us.drop (a+1)).head?.any BD) ?_ ?_
    ·refine cZ (eG (dP (a9 3 rfl (kb ?_))))
     refine bL (fun _=>?_) (fun _=>?_)
     ·rename_i e2
      rw[e2]
      refine eG (aK (aD (a9 2 rfl (aC (aJ (aL P.b_len .builtin 4 rfl (a8 (a9 0 rfl ?_))))))))
      refine aA (bP (Nat.le_trans hul (by decide)) (q9 (kb ?_)))
      refine bL (fun _=>?_) (fun _=>?_)
      ·rename_i e3
       have ha' :a+1<us.length:=by have:=of_decide_eq_true e3;rw[cQ] at this;exact aB [_,_] [] (.lt (.a (.c .w) (.n 1)) (.c .x)) 1 (.Lt (.a .w (.n 1)) .x) 0 qq this
       refine Cu (hix (a+1) ha') fun v v1 v2 v3 v4 v5 v6=>?_
       have hv:(us.drop (a+1)).head?.any BD=BD v:=by rw[v2];rfl
       rw[hv]
       refine eG (vO (aC (aV (a9 0 rfl (aD (a9 2 rfl (aC (aJ ?_))))))))
       refine o_item_lst (j:=a+1) v5 v6 (by exact aZ [_] [] (.le (.g (.n 9223372036854775808)) (.a (.c .w) (.n 1))) 0 qq) (by exact aI [_,_] [] (.Le .x (.n 2000)) 1 (.Lt (.a .w (.n 1)) .x) 1 (.lt (.a (.c .w) (.n 1)) (.n 9223372036854775808)) 0 qq hz ha') (yW (kb ?_))
       refine bL (fun _=>?_) (fun _=>?_)
       ·rename_i e4;refine aC ?_;refine q9 ?_;refine kb ?_;refine bL (fun _=>?_) (fun _=>?_)
        ·rename_i e5;refine dQ ?_;exact⟨by unfold BD;rw[e4,e5];rfl,rfl⟩
        ·rename_i e5;exact⟨by unfold BD;rw[e4,Bool.eq_false_iff.mpr e5];rfl,rfl⟩
       ·rename_i e4;refine zA rfl ?_;exact⟨by unfold BD;rw[Bool.eq_false_iff.mpr e4];rfl,rfl⟩
      ·rename_i e3
       have:us.drop (a+1)=[]:=List.drop_eq_nil_of_le (by have:=e3;rw[decide_eq_true_iff,cQ] at this;exact aB [_,_] [] (.nlt (.a (.c .x) (.n 1)) (.c .w)) 1 (.Le .w (.a .x (.n 1))) 0 qq this)
       exact⟨by rw[this];rfl,rfl⟩
     ·rename_i e2
      exact⟨by rw[Bool.eq_false_iff.mpr e2];rfl,rfl⟩
    ·refine bL (fun _=>?_) (fun _=>?_)
     ·rename_i e2
      refine aG (Bool.and_eq_true_iff.mp e2) fun e2 e3=>?_
      have ha' :a+1<us.length:=by
       refine Nat.lt_of_not_le fun q=>?_
       rw[List.drop_eq_nil_of_le q] at e3;cases e3
      refine Cu (hix (a+1) ha') fun v v1 v2 v3 v4 v5 v6=>?_
      have hv:BD v=true:=by rw[v2] at e3;exact e3
      have hb:0≤rK u v∧rK u v≤0x10FFFF:=by
       have h1:=e2;have h2:=hv
       unfold Cp at h1;unfold BD at h2
       rw[Bool.and_eq_true,decide_eq_true_iff,decide_eq_true_iff] at h1 h2
       unfold rK;exact⟨aI [] [_,_] (.le (.n 55296) .w) 1024 (.le (.n 56320) .x) 1 (.le (.n 0) (.s (.a (.a (.n 65536) (.m (.s .w (.n 55296)) (.n 1024))) .x) (.n 56320))) 0 qq h1.1 h2.1,aI [] [_,_] (.lt .w (.n 56320)) 1024 (.lt .x (.n 57344)) 1 (.le (.s (.a (.a (.n 65536) (.m (.s .w (.n 55296)) (.n 1024))) .x) (.n 56320)) (.n 1114111)) 0 qq h1.2 h2.2⟩
      refine gZ (aY (a9 1 rfl (eA (fW (.here)) .builtin (a8 (aL P.b_chr .builtin 5 rfl (a8 (aD (aD ?_))))))))
      refine aD (aC (aD (aD (aV (a9 0 rfl (a9 2 rfl (o_item_lst u5 u6 (by exact aZ [_] [] (.le (.g (.n 9223372036854775808)) (.c .w)) 0 qq) (by exact aI [_,_] [] (.Le .x (.n 2000)) 1 (.Lt (.a .w (.n 1)) .x) 1 (.lt (.c .w) (.n 9223372036854775808)) 0 qq hz ha') (aC ?_))))))))
      refine bN (aC ?_)
      refine eJ ?_ (.of_right (by decide))
      refine aJ (aV (a9 0 rfl (aD (a9 2 rfl (aC (aJ (o_item_lst (j:=a+1) v5 v6 (by exact aZ [_] [] (.le (.g (.n 9223372036854775808)) (.a (.c .w) (.n 1))) 0 qq) (by exact aI [_,_] [] (.Le .x (.n 2000)) 1 (.Lt (.a .w (.n 1)) .x) 1 (.lt (.a (.c .w) (.n 1)) (.n 9223372036854775808)) 0 qq hz ha') (aJ ?_))))))))
      refine aC (bN (aA (Ci hb.1 hb.2 (aA (iW .here hpl (Aj (aM (aD ?_))))))))
      refine a9 2 rfl (aC (aJ (d8 2 rfl (aF (aM (aD (a9 2 rfl (aC ?_))))))))
      refine aJ (d8 2 rfl (aF (hJJ1 _ _ ?_)))
      refine⟨us.length-(a+2),by exact aI [_,_,_,_] [] (.Eq (.a .w (.a .y (.n 2))) .z) 1 (.Eq (.a .x .y) .z) (.negSucc 0) (.Lt .w .x) 0 qq (Nat.sub_add_cancel (aB [_,_] [] (.Lt (.a .w (.n 1)) .x) 1 (.Le (.a .w (.n 2)) .x) 0 qq ha')) (Nat.sub_add_cancel (h1)),p++[(rK u v).toNat],a+2,some (.bool (Cp u)),rfl,by exact aB [_,_] [] (.Lt (.a .w (.n 1)) .x) 1 (.Le (.a .w (.n 2)) .x) 0 qq ha',by rw[List.length_append];show p.length+1≤_;exact aB [_,_] [] (.Le .w .x) 1 (.Le (.a .w (.n 1)) (.a .x (.n 2))) 0 qq h2,?_,?_⟩
      ·rw[List.append_assoc,←h3,u2,v2,wB (by rw[e2,hv];rfl)];rfl
      ·rw[List.map_append];unfold V.strs;rw[List.map_append,show((a+2:Nat):Int)=(a:Int)+1+1 by exact d9 [_] [] (.eq (.c (.a .w (.n 2))) (.a (.a (.c .w) (.n 1)) (.n 1))) qq];rfl
     ·rename_i e2
      have hone:dE (us.drop a)=if rB u=true then dE (us.drop (a+1)) else u.toNat::dE (us.drop (a+1)):=by
       rw[u2]
       exact yG fun v l q r=>e2 (by rw[q];exact r)
      refine bU ?_
      refine WC.join (!rB u) ?_ ?_
      ·refine fD (vO (aC (aV (a9 0 rfl (a9 2 rfl (o_item_lst u5 u6 (by exact aZ [_] [] (.le (.g (.n 9223372036854775808)) (.c .w)) 0 qq) (by exact aI [_,_] [] (.Le .x (.n 2000)) 1 (.Lt .w .x) 1 (.lt (.c .w) (.n 9223372036854775808)) 0 qq hz ha) (yW (kb ?_))))))))
       refine bL (fun _=>?_) (fun _=>?_)
       ·rename_i e3;refine aC ?_;refine q9 ?_;refine kb ?_;exact⟨by unfold rB;rw[e3];rfl,rfl⟩
       ·rename_i e3;exact⟨by unfold rB;rw[Bool.eq_false_iff.mpr e3];rfl,rfl⟩
      ·refine bL (fun _=>?_) (fun _=>?_)
       ·rename_i e3
        have e3:rB u=false:=by simpa using e3
        refine gZ (aY (a9 1 rfl (eA (fW (.here)) .builtin (a8 (aL P.b_chr .builtin 5 rfl (a8 (aV (a9 0 rfl ?_))))))))
        refine a9 2 rfl (o_item_lst u5 u6 (by exact aZ [_] [] (.le (.g (.n 9223372036854775808)) (.c .w)) 0 qq) (by exact aI [_,_] [] (.Le .x (.n 2000)) 1 (.Lt .w .x) 1 (.lt (.c .w) (.n 9223372036854775808)) 0 qq hz ha) (aA (Ci u3 (by exact aB [] [_] (.lt .w (.n 65536)) 1 (.le .w (.n 1114111)) 0 qq u4) (aA (iW .here hpl (Aj (aF (aF ?_))))))))
        refine aM (aD (a9 2 rfl (aC (aJ (d8 2 rfl (aF (hJJ1 _ _ ?_)))))))
        refine⟨us.length-(a+1),by exact aI [_,_,_,_] [] (.Eq (.a .w (.a .y (.n 1))) .z) 1 (.Eq (.a .x .y) .z) (.negSucc 0) (.Lt .w .x) 0 qq (Nat.sub_add_cancel (aB [_,_] [] (.Lt .w .x) 1 (.Le (.a .w (.n 1)) .x) 0 qq ha)) (Nat.sub_add_cancel (h1)),p++[u.toNat],a+1,some (.bool (Cp u)),rfl,by exact aB [_,_] [] (.Lt .w .x) 1 (.Le (.a .w (.n 1)) .x) 0 qq ha,by rw[List.length_append];show p.length+1≤_;exact aB [_,_] [] (.Le .w .x) 1 (.Le (.a .w (.n 1)) (.a .x (.n 1))) 0 qq h2,?_,?_⟩
        ·rw[List.append_assoc,←h3,hone,e3];rfl
        ·rw[List.map_append];unfold V.strs;rw[List.map_append];rfl
       ·rename_i e3
        have e3:rB u=true:=by simpa using e3
        refine aF (aF (aM (aD (a9 2 rfl (aC (aJ (d8 2 rfl (aF ?_))))))))
        refine hJJ1 _ _ ?_
        refine⟨us.length-(a+1),by exact aI [_,_,_,_] [] (.Eq (.a .w (.a .y (.n 1))) .z) 1 (.Eq (.a .x .y) .z) (.negSucc 0) (.Lt .w .x) 0 qq (Nat.sub_add_cancel (aB [_,_] [] (.Lt .w .x) 1 (.Le (.a .w (.n 1)) .x) 0 qq ha)) (Nat.sub_add_cancel (h1)),p,a+1,_,rfl,by exact aB [_,_] [] (.Lt .w .x) 1 (.Le (.a .w (.n 1)) .x) 0 qq ha,by exact aB [_,_] [] (.Le .w .x) 1 (.Le .w (.a .x (.n 1))) 0 qq h2,?_,rfl⟩
        rw[←h3,hone,e3];rfl
  ·rename_i e1
   have ha:a=us.length:=by rw[decide_eq_true_iff,cQ] at e1;exact Nat.le_antisymm (h1) (aB [_,_] [] (.nlt (.c .x) (.c .w)) 1 (.Le .w .x) 0 qq e1)
   subst ha
   refine aF (aO (aY (aE (eA uC .builtin (a8 (a9 1 rfl (aA ?_)))))))
   refine DG .here ?_ ?_
   ·rw[uF,List.length_map]
    exact Nat.le_trans (Nat.add_le_add h2 (Nat.mul_le_mul_right 0 h2)) (by show us.length+us.length*0≤_;exact aB [_] [] (.Le .w (.n 2000)) 1 (.Le (.a .w (.r .w 0)) (.n 16777216)) 0 qq hz)
   ·refine hRR _ _ ?_;show V.str _=V.str _
    rw[←h3,List.drop_length,wC,List.append_nil]
    exact congrArg V.str (s3 p)
theorem sD{n:Int}(h0:0≤n)(h1:n<256):((n.toNat.toUInt8).toNat:Int)=n:=by
 have:n.toNat.toUInt8.toNat=n.toNat % 256:=UInt8.toNat_ofNat
 rw[this];lia -abstractProof
theorem nZ(l:List Int)(h:∀n∈l,0≤n∧n<256):(byteArr l).toList.map (fun u=>V.int u.toNat)=V.ints l:=by
 unfold byteArr V.ints
 rw[List.map_map]
 exact List.map_congr_left fun n hn=>congrArg V.int (sD (h n hn).1 (h n hn).2)
theorem Af:∀(us:List Int) (i:Nat) (u:Int),us[i]? =some u→(us.flatMap oH)[2*i]? =some (u.fdiv 256)∧(us.flatMap oH)[2*i+1]? =some (u.fmod 256)
 |v::us,0,u,h=>by cases h;exact⟨rfl,rfl⟩
 |v::us,i+1,u,h=>by
  have:=Af us i u (by simpa using h)
  rw[List.flatMap_cons]
  show(_::_::_)[_]? =_∧(_::_::_)[_]? =_
  rw[show 2*(i+1)=2*i+1+1 by exact d9 [_] [] (.Eq (.m 2 (.a .w (.n 1))) (.a (.a (.m 2 .w) (.n 1)) (.n 1))) qq]
  exact this
theorem AX{ns:List Int}{j:Nat}{n:Int}(h:ns[j]? =some n):(wY++byteArr ns)[2+j]? =some n.toNat.toUInt8:=by
 rw[Array.getElem?_append_right (by show 2≤_;exact aZ [_] [] (.Le (.n 2) (.a (.n 2) .w)) 0 qq)]
 show(byteArr ns)[2+j-2]? =_
 rw[Nat.add_sub_cancel_left]
 unfold byteArr
 simp[h]
theorem y2{l:List Nat}(h:kF l=true):∀n∈mD l,0≤n∧n<256:=fun n hn=>by
 refine aH (List.mem_map.mp hn) fun m hm z2=>?_
 subst z2
 have:=of_decide_eq_true (List.all_eq_true.mp h m hm)
 exact⟨aZ [_] [] (.le (.n 0) (.c .w)) 0 qq,aB [_] [] (.Le .w (.n 127)) 1 (.lt (.c .w) (.n 256)) 0 qq this⟩
theorem Bd(l:List Nat):((KBy.picked (aQ l) none (some 2)).toList != wY.toList)=kF l:=by
 rw[KBc.picked_eq]
 unfold aQ
 split
 ·rename_i h
  rw[h,bne_iff_ne]
  intro e
  have hm:(254:UInt8)∈(byteArr (mD l)).toList:=by
   have:(254:UInt8)∈wY.toList:=by decide
   rw[←e] at this
   exact List.mem_of_mem_drop (List.mem_of_mem_take this)
  have:V.int ((254:UInt8).toNat:Int)∈V.ints (mD l):=by
   rw[←nZ _ (y2 h)]
   exact List.mem_map_of_mem hm
  refine aH (List.mem_map.mp this) fun n hn e=>aH (List.mem_map.mp hn) fun m hm z2=>?_
  subst z2
  have h2:=of_decide_eq_true (List.all_eq_true.mp h m hm)
  have h3:=V.int_inj e
  have:((254:UInt8).toNat:Int)=254:=rfl
  exact eQ [_,_] [] (.Le .w (.n 127)) 1 (.eq (.c .w) (.c .x)) (.negSucc 0) (.eq (.c .x) (.n 254)) (.negSucc 0) (.ff) 126 qq h2 h3 this
 ·rename_i h
  rw[Bool.eq_false_iff.mpr h,bne_eq_false_iff_eq]
  have hs:2≤(wY++byteArr ((bZ l).flatMap oH)).size:=by rw[Array.size_append];exact Nat.le_add_right 2 _
  have hc:clipAt (wY++byteArr ((bZ l).flatMap oH)).size 2=2:=by
   unfold clipAt
   rw[if_neg (by decide)]
   exact Ah [_] [_,_] (.eq .w (.n 2)) 1 (.eq .x .w) 1 (.eq (.c .w) .x) 1 (.Eq .w (.n 2)) qq (Int.min_eq_left (aB [_] [] (.Le (.n 2) .w) 1 (.le (.n 2) (.c .w)) 0 qq hs)) (Int.max_eq_right (aB [] [_] (.eq .w (.n 2)) (.negSucc 0) (.le (.n 0) .w) 0 qq (Int.min_eq_left (aB [_] [] (.Le (.n 2) .w) 1 (.le (.n 2) (.c .w)) 0 qq hs)))) (Int.toNat_of_nonneg (aI [] [_,_] (.eq .x (.n 2)) (.negSucc 0) (.eq .w .x) (.negSucc 0) (.le (.n 0) .w) 0 qq (Int.min_eq_left (aB [_] [] (.Le (.n 2) .w) 1 (.le (.n 2) (.c .w)) 0 qq hs)) (Int.max_eq_right (aB [] [_] (.eq .w (.n 2)) (.negSucc 0) (.le (.n 0) .w) 0 qq (Int.min_eq_left (aB [_] [] (.Le (.n 2) .w) 1 (.le (.n 2) (.c .w)) 0 qq hs))))))
  show((((wY++byteArr ((bZ l).flatMap oH)).toList.drop 0).take (clipAt _ 2-0)).toArray).toList=_
  rw[hc,Array.toList_append]
  rfl
theorem zF(l:List Nat):((KBy.picked (aQ l) none (some 2)).toList != (#[254,255]:Array UInt8).toList)=kF l:=Bd l
noncomputable def iM(l:List Nat):List Nat:=if kF l=true then l else dE (bZ l)
noncomputable def GN(x0:Option V):List (Str×Slot):=[("octets",.cel x0),("MARK",.glob),("text_of_units",.glob),("range",.glob),("len",.glob)]
theorem sV{g:Gx}(P:PF g){l:List Nat}(hz:l.length≤1000)(ho:∀n∈l,n<0x110000):Pure g 2 (P.fa 56) [.bytes (aQ l)] (.str (S (iM l))):=by
 have hu:=gJ l
 have huo:=qZ ho
 have hsz:(aQ l).size≤5000:=by
  unfold aQ
  split
  ·rw[byteArr_size];unfold mD;rw[List.length_map];exact aB [_] [] (.Le .w (.n 1000)) 1 (.Le .w (.n 5000)) 0 qq hz
  ·rw[Array.size_append,byteArr_size,jV];show 2+_≤_;exact aI [_,_] [] (.Le .x (.n 1000)) 4 (.Le .w (.m 2 .x)) 2 (.Le (.a (.n 2) (.m 2 .w)) (.n 5000)) 0 qq hz hu
 refine aN (ps:=["octets"]) (P.i 56 rfl) (P.j 56 rfl) (fun _ _=>rfl) rfl fun c RR hRR hl hcel hcode hpins=>?_
 ·refine(?_:WX _ _ ⟨GN (some _),_⟩ _ _)
  refine bU (aK (kK (a9 0 rfl (jU (eX (aC (nE ?_)))))))
  refine⟨_,.bytes (Nat.le_trans hsz (by decide)),?_⟩
  refine bG 1 rfl P.g_MARK (yV ?_)
  rw[zF]
  refine kb ?_
  refine bL (fun _=>?_) (fun _=>?_)
  ·rename_i e1
   have hb:aQ l=byteArr (mD l):=by unfold aQ;rw[if_pos e1]
   refine aO (aY (aE (eA uC .builtin (a8 (dZ (.loc (.loc (.glob .nil))) (Cl (a9 0 rfl ?_)))))))
   refine⟨_,rfl,?_⟩
   refine B3 l (fun(n:Nat)=>V.int n) (fun n=>V.str (lW n)) (R:=V.strs (l.map lW)) (by rw[hb];exact(nZ _ (y2 e1)).trans (by unfold V.ints mD;rw[List.map_map];rfl)) (by unfold V.strs;rw[List.map_map];rfl) (Nat.le_trans hz (by decide)) (fun n hm_ J_ ys hJ_ e ps B=>?_) ?_
   ·have hn:=ho n hm_
    refine bE 1 rfl (f6 ?_)
    refine fV rfl (aL P.b_chr .builtin 2 rfl (a8 (a9 1 rfl (aA ?_))))
    refine Ci (Int.natCast_nonneg n) (show(n:Int)≤_ by exact aB [_] [] (.Lt .w (.n 1114112)) 1 (.le (.c .w) (.n 1114111)) 0 qq hn) ?_
    exact hJ_
   refine aA ?_
   refine Ch (by rw[uF,List.length_map];show l.length+l.length*0≤_;exact aB [_] [] (.Le .w (.n 1000)) 1 (.Le (.a .w (.r .w 0)) (.n 16777216)) 0 qq hz) (hRR _ _ ⟨?_,rfl⟩)
   rw[s3];unfold iM;rw[if_pos e1]
  ·rename_i e1
   have hb:aQ l=wY++byteArr ((bZ l).flatMap oH):=by unfold aQ;rw[if_neg e1]
   have hbs:(aQ l).size=2+2*(bZ l).length:=by rw[hb,Array.size_append,byteArr_size,jV];rfl
   refine aF (aO (aX (P.i 55 rfl) 2 rfl (a8 (dZ (.loc (.loc (.fre .cel .nil))) (bH (aL P.b_range .type 3 rfl (a8 (aC ?_))))))))
   refine a8 (aD (aL P.b_len .builtin 4 rfl (a8 (a9 0 rfl (aA (xB (Nat.le_trans hsz (by decide)) (aC (bN ?_))))))))
   refine a8 (aC (aA (x9 (by decide) (PyProof.noPylong_small (by decide)) ?_)))
   have hr:Builtin.Range.rangeSize 2 (((aQ l).size:Int)-1) 2=(bZ l).length:=by
    unfold Builtin.Range.rangeSize
    rw[if_pos (by decide),hbs]
    split<;>(first|(clear hbs hb e1 hcode hpins hcel hl hRR hsz huo hu ho hz;lia -abstractProof)|exact Int.le_antisymm (aZ [_] [] (.le (.n 0) (.c .w)) 0 qq) (aB [_] [] (.nlt (.n 2) (.s (.c (.a (.n 2) (.m 2 .w))) (.n 1))) 1 (.le (.c .w) (.n 0)) 1 qq ‹_›))
   refine⟨_,.rng (l0 (by decide) (by decide) (by exact aB [_,_] [] (.Eq .w (.a (.n 2) (.m 2 .x))) (.negSucc 0) (.le (.n 0) (.s (.c .w) (.n 1))) 1 qq hbs) (by exact aB [_] [] (.Le .w (.n 5000)) 1 (.le (.s (.c .w) (.n 1)) (.n 100000)) 0 qq hsz) (by decide) (by decide) (by exact aI [_,_] [] (.Le .x (.n 5000)) 1 (.Eq .x (.a (.n 2) (.m 2 .w))) (.negSucc 0) (.Le .w (.n 100000)) 1 qq hsz hbs) hr) hr,by rw[List.length_map,List.length_range];exact Nat.le_trans hu (Nat.le_trans (Nat.mul_le_mul_left 2 hz) (by decide)),rfl,fun r ys own=>cW (fun a b=>bZ l=a++b) (fun a b=>r=(List.range' a.length b.length).map (fun(i:Nat)=>V.int (2+(i:Int)*2))) (fun a b=>ys=V.ints a) (fun a b=>own=[]),⟨[],bZ l,rfl,by rw[List.length_nil,←List.range_eq_range'],rfl,rfl⟩,?_,?_⟩
   ·intro JJ2 hJJ2 x r ys own z0
    refine cW.e z0 fun a b e4 e5 e6 z1=>?_
    clear z0
    subst z1
    intro e ps B
    cases b with
    |nil=>cases e5
    |cons n b=>
     cases e5
     have hat:(bZ l)[a.length]? =some n:=by rw[e4,List.getElem?_append_right (Nat.le_refl _),Nat.sub_self];rfl
     have hal:a.length<(bZ l).length:=by rw[e4,List.length_append,List.length_cons];exact aZ [_,_] [] (.Lt .w (.a .w (.a .x (.n 1)))) 0 qq
     have hn:=huo n (by rw[e4];simp)
     refine aG (Af _ _ _ hat) fun o1 o2=>?_
     have b1:=uO hn.1 hn.2 (n.fdiv 256) (List.mem_cons_self ..)
     have b2:=uO hn.1 hn.2 (n.fmod 256) (List.mem_cons_of_mem _ (List.mem_cons_self ..))
     have hfit:∀i:Int,0≤i→i<100000→Builtin.Bytes.fitsIndex i=true:=fun i h0 h1=>by unfold Builtin.Bytes.fitsIndex;rw[decide_eq_true (by exact aB [] [_] (.le (.n 0) .w) 1 (.le (.g (.n 9223372036854775808)) .w) 0 qq h0),decide_eq_true (by exact aB [] [_] (.lt .w (.n 100000)) 1 (.lt .w (.n 9223372036854775808)) 0 qq h1)];rfl
     have ix:∀j:Nat,∀u:Int,((bZ l).flatMap oH)[j]? =some u→j<2*(bZ l).length→(seqIndex? ((2:Int)+j) (aQ l).size).bind ((aQ l)[·]?)=some u.toNat.toUInt8:=fun j u h1 h2=>by
      rw[show(2:Int)+(j:Int)=((2+j:Nat):Int) by exact d9 [_] [] (.eq (.a (.n 2) (.c .w)) (.c (.a (.n 2) .w))) qq,bA (by exact aZ [_] [] (.le (.n 0) (.c (.a (.n 2) .w))) 0 qq) (by exact aI [_,_,_] [] (.Eq .x (.a (.n 2) (.m 2 .y))) (.negSucc 0) (.Lt .w (.m 2 .y)) 1 (.lt (.c (.a (.n 2) .w)) (.c .x)) 0 qq hbs h2),hb]
      exact AX h1
     refine bE 1 rfl (f6 ?_)
     refine fV rfl (aD (aD (aC (aV (a9 2 rfl (a9 1 rfl ?_))))))
     refine nA (hfit _ (by exact aZ [_] [] (.le (.n 0) (.a (.n 2) (.m (.c .w) (.n 2)))) 0 qq) (by exact eQ [_,_,_] [] (.Le .x (.n 5000)) 1 (.Eq .x (.a (.n 2) (.m 2 .y))) (.negSucc 0) (.Lt .w .y) 2 (.lt (.a (.n 2) (.m (.c .w) (.n 2))) (.n 100000)) 0 qq hsz hbs hal)) (by have:=ix _ _ o1 (by exact aB [_,_] [] (.Lt .w .x) 2 (.Lt (.m 2 .w) (.m 2 .x)) 0 qq hal);rw[show(2:Int)+((a.length:Nat):Int)*2=2+((2*a.length:Nat):Int) by exact d9 [_] [] (.eq (.a (.n 2) (.m (.c .w) (.n 2))) (.a (.n 2) (.c (.m 2 .w)))) qq];exact this) ?_
     refine eJ ?_ (.of_left (by decide))
     refine aV (a9 2 rfl (aD (a9 1 rfl (aC (aJ ?_)))))
     refine nA (hfit _ (by exact aZ [_] [] (.le (.n 0) (.a (.a (.n 2) (.m (.c .w) (.n 2))) (.n 1))) 0 qq) (by exact eQ [_,_,_] [] (.Le .x (.n 5000)) 1 (.Eq .x (.a (.n 2) (.m 2 .y))) (.negSucc 0) (.Lt .w .y) 2 (.lt (.a (.a (.n 2) (.m (.c .w) (.n 2))) (.n 1)) (.n 100000)) 0 qq hsz hbs hal)) (by have:=ix _ _ o2 (by exact aB [_,_] [] (.Lt .w .x) 2 (.Lt (.a (.m 2 .w) (.n 1)) (.m 2 .x)) 0 qq hal);rw[show(2:Int)+((a.length:Nat):Int)*2+1=2+((2*a.length+1:Nat):Int) by exact d9 [_] [] (.eq (.a (.a (.n 2) (.m (.c .w) (.n 2))) (.n 1)) (.a (.n 2) (.c (.a (.m 2 .w) (.n 1))))) qq];exact this) ?_
     refine aJ (hJJ2 _ _ _ ?_)
     refine⟨a++[n],b,by rw[List.append_assoc];exact e4,by rw[List.length_append];rfl,?_,rfl⟩
     have hd:=Int.mul_fdiv_add_fmod n 256
     rw[e6,gM,sD b1.1 b1.2,sD b2.1 b2.2,hd];rfl
   intro ys own z0
   refine cW.e z0 fun a b e4 e5 z1 z2=>?_
   clear z0
   subst z1
   subst z2
   cases b with
   |cons n b=>cases e5
   |nil=>
    rw[List.append_nil] at e4
    subst e4
    refine aA ?_
    refine⟨1,_,by exact lv hl,qF P (by exact aI [_,_] [] (.Le .x (.n 1000)) 2 (.Le .w (.m 2 .x)) 1 (.Le .w (.n 2000)) 0 qq hz hu) huo,?_⟩
    refine hRR _ _ ?_
    exact⟨by unfold iM;rw[if_neg e1],rfl⟩
section
variable {c:Cx}{σ:St}{X:Value→St→Prop}
theorem nP{C:Addr}{name:Str}{np p:Pos}{args:List Expr}{Q:V→St→Prop}(hv:Gl c.g name (.val (.ref C)))(hk:keepIn c.g.K (.ref C)=true)(i:Nat)(hg:qE i σ.env=some name)
  (h:hO c p args σ X fun xs σ₂=>cJ (fun n QC=>n≤c.lvl) (fun n QC=>aS c.g n (.val (.ref C)) xs [] cK QC) (fun n QC=>∀x own',(∀p∈own',qH c p.1)→QC x own'→Q x ⟨σ₂.env,own' ++σ₂.own⟩))
  (hpl:autoParam (args.all fR=true) c8)
  (he:autoParam (eval (.Call (.Name name np) args [] p) c.env=(do let f ←eval (.Name name np) c.env;callWith p f [] (backTo p (starEach args c.env)) [])) c8):WE c (.Call (.Name name np) args [] p) σ X Q:=
 e_call (bG i hg hv ⟨.inK hk,h.mono fun xs σ₂ ⟨n,QC,hn,hw,hq⟩=>pS (XC:=cK) cT.none hn hw (fun x own' ho hx=>hq x own' (fun p hp=>(ho p hp).resolve_left (by simp)) hx) fun _ _ hx=>hx.elim⟩) hpl he
end
structure CX(g:Gx)(name:Str)(k:Nat)(C fI:Addr)(fd:FuncData):Prop where
 gl:Gl g name (.val (.ref C))
 keep:keepIn g.K (.ref C)=true
 makes:makesIn g.K C=true
 find:findIn g.K (.ref C) "__init__" =some (some (.ref fI))
 typ:typeIn g.K (.ref fI)=some (.type "function")
 init:Gw g k 0 fI fd
structure PO(g:Gx) where
 nm:Addr
 nmI:Addr
 nmF:FuncData
 cN:CX g "Name" 9 nm nmI nmF
 dN:nmF.defaults= .none
 sN:iY g.K nm "text"
 st:Addr
 stI:Addr
 stF:FuncData
 cS:CX g "String" 10 st stI stF
 dS:sG g stF #[.bool false]
 sS1:iY g.K st "octets"
 sS2:iY g.K st "is_hex"
 rf:Addr
 rfI:Addr
 rfF:FuncData
 cR:CX g "Reference" 12 rf rfI rfF
 dR:rfF.defaults= .none
 sR1:iY g.K rf "number"
 sR2:iY g.K rf "generation"
 sh:Addr
 shI:Addr
 shF:FuncData
 cH:CX g "Shelf" 17 sh shI shF
 dH:sG g shF #[.none,.none]
 sH1:iY g.K sh "table"
 sH2:iY g.K sh "trailer"
theorem Au{g:Gx}{name:Str}{k:Nat}{C fI:Addr}{fd:FuncData}{xs:List V}{Q:V→List (Addr×OV)→Prop}{n:Nat}(o:CX g name k C fI fd)
  (h:∀d,aS g n (.val (.ref fI)) (.ins C d::xs) [(d,.dct [])] cK (fun v own' =>v= .none∧fT (fun l rest=>yE d (.dct l) own' rest) (fun l rest=>Q (.obj C l) rest))):aS g (n+1) (.val (.ref C)) xs [] cK Q:=
 CM o.makes o.find o.typ fun d _=>h d
noncomputable def jX{g:Gx}(O:PO g)(x:Str):V:= .obj O.nm [("text",.str x)]
noncomputable def sO{g:Gx}(O:PO g)(b:Array UInt8):V:= .obj O.st [("octets",.bytes b),("is_hex",.bool false)]
noncomputable def lZ{g:Gx}(O:PO g)(n m:Int):V:= .obj O.rf [("number",.int n),("generation",.int m)]
noncomputable def cG{g:Gx}(O:PO g)(t r:Addr):V:= .obj O.sh [("table",.val (.ref t)),("trailer",.val (.ref r))]
theorem zR{g:Gx}(O:PO g){x:Str}:aS g 2 (.val (.ref O.nm)) [.str x] [] cK (fun v own=>v=jX O x∧own=[]):=
 Au O.cN fun d=>by
 refine jM (ps:=["self", "text"]) (xs' :=[.ins O.nm d,.str x]) O.cN.init (fun B s vs h1 h2 hr=>?_) (by decide) rfl (by decide) rfl fun c RR hRR hl hcel hcode hpins=>?_
 ·refine cJ.e hr.two fun u v z0 a b=>?_
  subst z0
  exact⟨[_,_],BindsTo.of_eq ((bindC O.cN.init.ps O.dN O.cN.init.kd).trans rfl),.cons a (.cons b .nil)⟩
 ·refine(?_:WX _ _ ⟨[("self",.loc (some _)),("text",.loc (some _))],_⟩ _ _)
  refine aU (fX ?_)
  refine a9 1 rfl (a9 0 rfl ?_)
  refine⟨_,d,_,_,rfl,O.sN,by decide,Nat.le_of_ble_eq_true rfl,.here,?_⟩
  exact aF (hRR _ _ (⟨rfl,_,_,.here,rfl,rfl⟩))
noncomputable def GL(x0 x1 x2:Option V):List (Str×Slot):=[("self",.loc x0),("octets",.loc x1),("is_hex",.loc x2)]
theorem xS{g:Gx}(O:PO g){b:Array UInt8}:aS g 2 (.val (.ref O.st)) [.bytes b] [] cK (fun v own=>v=sO O b∧own=[]):=
 Au O.cS fun d=>by
 refine jP.e O.dS fun T oT nT hT hg hdt=>?_
 refine jM (ps:=["self", "octets", "is_hex"]) (xs' :=[.ins O.st d,.bytes b,.bool false]) O.cS.init (fun B s vs h1 h2 hr=>?_) (by decide) rfl (by decide) rfl fun c RR hRR hl hcel hcode hpins=>?_
 ·refine cJ.e hr.two fun u v z0 a b=>?_
  subst z0
  exact⟨[_,_,.bool false],BindsTo.of_defaults hT (h1 _ _ hg) hdt (by unfold bindArgs;rw[O.cS.init.ps,O.cS.init.kd];rfl) rfl,.cons a (.cons b (.cons .bool .nil))⟩
 ·refine(?_:WX _ _ ⟨GL (some _) (some _) (some _),_⟩ _ _)
  refine aU (fX ?_)
  refine a9 1 rfl (a9 0 rfl ?_)
  refine⟨_,d,_,_,rfl,O.sS1,by decide,Nat.le_of_ble_eq_true rfl,.here,?_⟩
  refine aU (fX ?_)
  refine a9 2 rfl (a9 0 rfl ?_)
  refine⟨_,d,_,_,rfl,O.sS2,(by exact(show("is_hex" :Str)∉[("octets" :Str)] by decide)),Nat.le_of_ble_eq_true rfl,.here,?_⟩
  exact aF (hRR _ _ (⟨rfl,_,_,.here,rfl,rfl⟩))
noncomputable def FF(x0 x1 x2:Option V):List (Str×Slot):=[("self",.loc x0),("number",.loc x1),("generation",.loc x2)]
theorem Gc{g:Gx}(O:PO g){n m:Int}:aS g 2 (.val (.ref O.rf)) [.int n,.int m] [] cK (fun v own=>v=lZ O n m∧own=[]):=
 Au O.cR fun d=>by
 refine jM (ps:=["self", "number", "generation"]) (xs' :=[.ins O.rf d,.int n,.int m]) O.cR.init (fun B s vs h1 h2 hr=>?_) (by decide) rfl (by decide) rfl fun c RR hRR hl hcel hcode hpins=>?_
 ·cases hr with
  |cons a hr=>cases hr with
   |cons b hr=>cases hr with
    |cons e hr=>
     cases hr
     exact⟨[_,_,_],BindsTo.of_eq ((bindC O.cR.init.ps O.dR O.cR.init.kd).trans rfl),.cons a (.cons b (.cons e .nil))⟩
 ·refine(?_:WX _ _ ⟨FF (some _) (some _) (some _),_⟩ _ _)
  refine aU (fX ?_)
  refine a9 1 rfl (a9 0 rfl ?_)
  refine⟨_,d,_,_,rfl,O.sR1,by decide,Nat.le_of_ble_eq_true rfl,.here,?_⟩
  refine aU (fX ?_)
  refine a9 2 rfl (a9 0 rfl ?_)
  refine⟨_,d,_,_,rfl,O.sR2,(by exact(show("generation" :Str)∉[("number" :Str)] by decide)),Nat.le_of_ble_eq_true rfl,.here,?_⟩
  exact aF (hRR _ _ (⟨rfl,_,_,.here,rfl,rfl⟩))
noncomputable def FE(x0 x1 x2:Option V):List (Str×Slot):=[("self",.loc x0),("table",.loc x1),("trailer",.loc x2)]
theorem vF{g:Gx}(O:PO g):aS g 2 (.val (.ref O.sh)) [] [] cK (fun v own=>fT (fun t r=>v=cG O t r) (fun t r=>own=[(r,.dct []),(t,.idct [])])):=
 Au O.cH fun d=>by
 refine jP.e O.dH fun T oT nT hT hg hdt=>?_
 refine jM (ps:=["self", "table", "trailer"]) (xs' :=[.ins O.sh d,.none,.none]) O.cH.init (fun B s vs h1 h2 hr=>?_) (by decide) rfl (by decide) rfl fun c RR hRR hl hcel hcode hpins=>?_
 ·cases hr with
  |cons a hr=>
   cases hr
   exact⟨[_,.none,.none],BindsTo.of_defaults hT (h1 _ _ hg) hdt (by unfold bindArgs;rw[O.cH.init.ps,O.cH.init.kd];rfl) rfl,.cons a (.cons .none (.cons .none .nil))⟩
 ·refine(?_:WX _ _ ⟨FE (some _) (some _) (some _),_⟩ _ _)
  refine aU (fX ?_)
  refine iB (aK (a9 1 rfl (cE (dM (kb (oM rfl (Cz fun t ht=>a9 0 rfl ?_)))))))
  refine⟨_,d,_,_,rfl,O.sH1,by decide,Nat.le_of_ble_eq_true rfl,.skip .here,?_⟩
  refine aU (fX ?_)
  refine iB (aK (a9 2 rfl (cE (dM (kb (oM rfl (vA fun r hr=>a9 0 rfl ?_)))))))
  refine⟨_,d,_,_,rfl,O.sH2,(by exact(show("trailer" :Str)∉[("table" :Str)] by decide)),Nat.le_of_ble_eq_true rfl,.skip (.skip .here),?_⟩
  exact aF (hRR _ _ (⟨rfl,_,_,.skip (.skip .here),t,r,rfl,rfl⟩))
noncomputable def putIf(b:Bool)(l:List (Str×V))(k:Str)(x:V):List (Str×V):=if b=true then d6 l k x else l
theorem uJ{b:Bool}{l:List (Str×V)}{k:Str}{x:V}(h:b=true):putIf b l k x=d6 l k x:=if_pos h
theorem uK{b:Bool}{l:List (Str×V)}{k:Str}{x:V}(h:¬b=true):putIf b l k x=l:=if_neg h
noncomputable def bJ{g:Gx}(O:PO g)(style pre:Str)(start:Int):List (Str×V):=
 putIf (start != 1) (putIf (pre != "") (putIf (style != "") [] "S" (jX O style)) "P" (sO O (aQ pre.cps.toList))) "St" (.int start)
noncomputable def AA(x0 x1 x2 x3:Option V):List (Str×Slot):=[("style",.loc x0),("prefix",.loc x1),("start",.loc x2),("found",.loc x3),("Name",.glob),("String",.glob),("prefix_octets",.glob)]
theorem vL{g:Gx}(P:PF g)(O:PO g){style pre:Str}{start:Int}(hz:pre.length≤1000)(ho:fM pre):Pure g 3 (P.fa 57) [.str style,.str pre,.int start] (.dct (bJ O style pre start)):=by
 refine aN (ps:=["style", "prefix", "start"]) (P.i 57 rfl) (P.j 57 rfl) (fun _ _ _ _=>rfl) rfl fun c RR hRR hl hcel hcode hpins=>?_
 ·refine(?_:WX _ _ ⟨AA (some _) (some _) (some _) none,_⟩ _ _)
  refine aM (vA fun a ha=>d8 3 rfl ?_)
  have len:∀(l:List (Str×V)) k x,(d6 l k x).length≤l.length+1:=kX
  have l1:(putIf (style != "") [] "S" (jX O style)).length≤1:=by unfold putIf;split;exact len _ _ _;exact Nat.zero_le _
  have l2:(putIf (pre != "") (putIf (style != "") [] "S" (jX O style)) "P" (sO O (aQ pre.cps.toList))).length≤2:=by
   rw[putIf];split
   ·exact Nat.le_trans (len _ _ _) (Nat.add_le_add_right l1 1)
   ·exact Nat.le_trans l1 (by decide)
  refine Dh ?_ ?_ ?_
  ·exact⟨AA (some (.str style)) (some (.str pre)) (some (.int start)) (some (.val (.ref a))),[(a,.dct (putIf (style != "") [] "S" (jX O style)))]⟩
  ·refine wK (aK (a9 0 rfl (aE (iP (kb ?_)))))
   refine bL (fun _=>?_) (fun _=>?_)
   ·rename_i e1
    refine aU (eH ?_)
    refine nP O.cN.gl O.cN.keep 4 rfl (a8 (a9 0 rfl (aA ?_)))
    refine⟨2,_,by exact lv hl,zR O,fun x own' _ hx=>?_⟩
    refine aG hx fun z0 z1=>?_
    clear hx
    subst z0
    subst z1
    refine a9 3 rfl (aE ?_)
    refine⟨_,rfl,?_⟩
    refine .inr (.inl ⟨_,_,_,rfl,by decide,.here,?_⟩)
    refine aF ?_
    exact⟨rfl,by rw[uJ e1];rfl⟩
   ·rename_i e1
    refine aF ?_
    exact⟨rfl,by rw[uK e1];rfl⟩
  refine Dh ?_ ?_ ?_
  ·exact⟨AA (some (.str style)) (some (.str pre)) (some (.int start)) (some (.val (.ref a))),[(a,.dct (putIf (pre != "") (putIf (style != "") [] "S" (jX O style)) "P" (sO O (aQ pre.cps.toList))))]⟩
  ·refine wK (aK (a9 1 rfl (aE (iP (kb ?_)))))
   refine bL (fun _=>?_) (fun _=>?_)
   ·rename_i e1
    refine aU (eH ?_)
    refine nP O.cS.gl O.cS.keep 5 rfl (a8 (aX (P.i 54 rfl) 6 rfl (a8 (a9 1 rfl (aA ?_)))))
    refine⟨2,_,by exact lv hl,qG P hz ho,?_⟩
    refine aA ?_
    refine⟨2,_,by exact lv hl,xS O,fun x own' _ hx=>?_⟩
    refine aG hx fun z0 z1=>?_
    clear hx
    subst z0
    subst z1
    refine a9 3 rfl (aE ?_)
    refine⟨_,rfl,?_⟩
    refine .inr (.inl ⟨_,_,_,rfl,Nat.le_trans l1 (by decide),.here,?_⟩)
    exact aF (⟨rfl,by rw[uJ e1]⟩)
   ·rename_i e1
    exact aF (⟨rfl,by rw[uK e1]⟩)
  refine Dh ?_ ?_ ?_
  ·exact⟨AA (some (.str style)) (some (.str pre)) (some (.int start)) (some (.val (.ref a))),[(a,.dct (bJ O style pre start))]⟩
  ·refine wK (aK (a9 2 rfl (aC (l4 (kb ?_)))))
   refine bL (fun _=>?_) (fun _=>?_)
   ·rename_i e1
    refine aU (eH ?_)
    refine a9 2 rfl (a9 3 rfl (aE ?_))
    refine⟨_,rfl,?_⟩
    refine .inr (.inl ⟨_,_,_,rfl,Nat.le_trans l2 (by decide),.here,?_⟩)
    exact aF (⟨rfl,by rw[bJ,uJ e1]⟩)
   ·rename_i e1
    exact aF (⟨rfl,by rw[bJ,uK e1]⟩)
  refine aU (Ac (WE.frz ?_))
  exact a9 3 rfl (⟨a,_,_,_,_,_,ha,.here,.dct,.same,.here,hRR _ _ ⟨rfl,rfl⟩⟩)
noncomputable def GK(x0 x1:Option V):List (Str×Slot):=[("word",.loc x0),("key",.loc x1),("String",.glob)]
theorem kM{g:Gx}(P:PF g){k:Int}:Pure g 1 (P.fa 21) [.str "Nums",.int k] (.int k):=by
 refine aN (ps:=["word", "key"]) (P.i 21 rfl) (P.j 21 rfl) (fun _ _ _=>rfl) rfl fun c RR hRR hl hcel hcode hpins=>?_
 ·refine(?_:WX _ _ ⟨GK (some _) (some _),_⟩ _ _)
  refine aO (iB (aK (a9 0 rfl (aE (bX (kb (bI (bK (by decide) ?_))))))))
  exact a9 1 rfl (hRR _ _ (⟨rfl,rfl⟩))
noncomputable def cO(l:List (Int×V)):List V:=l.flatMap fun p=>[.int p.1,p.2]
noncomputable def rO(a b:Int):V:= .lst [.int a,.int b]
noncomputable def tR(l:List (Int×V))(a b:Int):V:= .dct [("Limits",rO a b),("Nums",.lst (cO l))]
theorem iE:∀l:List (Int×V),(cO l).length=2*l.length
 | []=>rfl
 |p::l=>by unfold cO;rw[List.flatMap_cons,List.length_append];have:=iE l;unfold cO at this;rw[this];show 2+2*l.length=2*(l.length+1);exact d9 [_] [] (.Eq (.a (.n 2) (.m 2 .w)) (.m 2 (.a .w (.n 1)))) qq
noncomputable def De(x0 x1 x2 x3 x4:Option V):List (Str×Slot):=[("word",.loc x0),("pairs",.loc x1),("row",.loc x2),("key",.loc x3),("value",.loc x4),("key_object",.glob)]
theorem xV{g:Gx}(P:PF g){l:List (Int×V)}{a b:Int×V}(h0:l[0]? =some a)(h1:l[l.length-1]? =some b)(hz:l.length≤1000):Pure g 2 (P.fa 29) [.str "Nums",.lst (bY l)] (tR l a.1 b.1):=by
 have hl0:0<l.length:=(List.getElem?_eq_some_iff.mp h0).1
 have hkl:(bY l).length=l.length:=List.length_map ..
 refine aN (ps:=["word", "pairs"]) (P.i 29 rfl) (P.j 29 rfl) (fun _ _ _=>rfl) rfl fun c RR hRR hl hcel hcode hpins=>?_
 ·refine(?_:WX _ _ ⟨De (some _) (some _) none none none,_⟩ _ _)
  refine aM ?_
  refine iA (aA ⟨by decide,fun s hs=>?_⟩)
  refine d8 2 rfl ?_
  refine iJ ?_ ?_ ?_ ?_
  ·exact fun items σ=>E4x3 (fun p r w1 w2=>l=p++r) (fun p r w1 w2=>items=bY r) (fun p r w1 w2=>σ=⟨De (some (.str "Nums")) (some (.lst (bY l))) (some (.val (.ref s))) w1 w2,[(s,.lst (cO p))]⟩)
  ·exact bH (a9 1 rfl (⟨_,.lst,[],l,none,none,rfl,rfl,rfl⟩))
  ·intro JJ1 hJJ1 v r σ₁ z0
   refine E4x3.e z0 fun p r' w1 w2 e1 e2 z1=>?_
   clear z0
   subst z1
   intro ps
   cases r' with
   |nil=>cases e2
   |cons x r' =>
    cases e2
    have hle:(cO p).length+1≤3000:=by
     have h2:p.length≤l.length:=by rw[e1,List.length_append];exact aZ [_,_] [] (.Le .w (.a .w .x)) 0 qq
     rw[iE];exact aI [_,_] [] (.Le .x (.n 1000)) 2 (.Le .w .x) 2 (.Le (.a (.m 2 .w) (.n 1)) (.n 3000)) 0 qq hz h2
    refine gW (.cons (.cons .nil)) (.cons (aR 3 rfl) (.cons (aR 4 rfl) .nil)) (gZ (aY (a9 2 rfl (eA (fW (.here)) .builtin (a8 (aX (P.i 21 rfl) 5 rfl (a8 (a9 0 rfl ?_))))))))
    refine a8 (a9 3 rfl (aA ?_))
    refine⟨1,_,show 1≤c.lvl by exact lv hl,kM (g:=g) P,?_⟩
    refine aA (iW .here (Nat.le_trans (Nat.le_of_succ_le hle) (by decide)) (Aj (gZ (aY (a9 2 rfl (eA (fW (.here)) .builtin (a8 (a9 4 rfl ?_))))))))
    refine aA ?_
    refine iW .here (by rw[List.length_append];exact Nat.le_trans hle (by decide)) ?_
    refine Aj (aF (hJJ1 _ _ ?_))
    exact⟨p++[x],r',some (.int x.1),some x.2,by rw[List.append_assoc];exact e1,rfl,by unfold cO;rw[List.flatMap_append];simp;rfl⟩
  ·intro σ₁ z0
   refine E4x3.e z0 fun p r' w1 w2 e1 e2 z1=>?_
   clear z0
   subst z1
   cases r' with
   |cons x r' =>cases e2
   |nil=>
    rw[List.append_nil] at e1
    subst e1
    refine aF (aO (WE.frz0 hs .here .lst (.keep (.keep (.loc .here .same))) ?_))
    refine fF ?_ ?_ ?_ ?_ ?_
    rotate_left
    rfl
    rfl
    simp
    decide
    intro D o
    refine bC (aE (kp (cF (a8 (aX (P.i 21 rfl) 5 rfl (a8 (a9 0 rfl (a8 ?_))))))))
    refine aV (aV (a9 1 rfl (aC ?_)))
    refine o_item_lst (j:=0) (by rw[bA (Int.le_refl 0) (by rw[hkl];exact aB [_] [] (.Lt (.n 0) .w) 1 (.lt (.n 0) (.c .w)) 0 qq hl0)];rfl) (by unfold bY;rw[List.getElem?_map,h0];rfl) (by decide) (by decide) ?_
    refine aC (cD (j:=0) rfl rfl (by decide) (by decide) (aA ?_))
    refine⟨1,_,show 1≤c.lvl by exact lv hl,kM (g:=g) P,?_⟩
    refine a8 (aX (P.i 21 rfl) 5 rfl (a8 (a9 0 rfl (a8 (aV (aV (a9 1 rfl (kJ ?_))))))))
    refine aC (bO ?_)
    refine o_item_lst (j:=l.length-1) (by rw[kA (by decide) (by rw[hkl];exact aB [_] [] (.Lt (.n 0) .w) 1 (.le (.n 0) (.a (.g (.n 1)) (.c .w))) 0 qq hl0),hkl];congr 1;exact wZ [_,_,_] [] (.eq (.c .w) (.a (.g (.n 1)) (.c .y))) 1 (.Eq (.a .x (.n 1)) .y) (.negSucc 0) (.Eq .w .x) qq (Int.toNat_of_nonneg (aB [_] [] (.Lt (.n 0) .w) 1 (.le (.n 0) (.a (.g (.n 1)) (.c .w))) 0 qq hl0)) (Nat.sub_add_cancel (aB [_,_] [] (.eq (.c .x) (.a (.g (.n 1)) (.c .w))) 1 (.Le (.n 1) .w) 0 qq (Int.toNat_of_nonneg (aB [_] [] (.Lt (.n 0) .w) 1 (.le (.n 0) (.a (.g (.n 1)) (.c .w))) 0 qq hl0))))) (by unfold bY;rw[List.getElem?_map,h1];rfl) (by decide) (by decide) ?_
    refine aC (cD (j:=0) rfl rfl (by decide) (by decide) (aA ?_))
    refine⟨1,_,show 1≤c.lvl by exact lv hl,kM (g:=g) P,?_⟩
    exact aA (eB rfl (bC (a9 0 rfl (kp (a9 2 rfl (cV (hRR _ _ (⟨rfl,rfl⟩))))))))
noncomputable def hW(n m:Int)(a:Nat)(b:Int):Int:=b+n.fdiv m+(if(decide ((a:Int)<n.fmod m))=true then 1 else 0)
noncomputable def lM(xs:List V)(m:Int):Nat→Nat→Int→List V
 |0,_,_=>[]
 |k+1,a,b=> .lst (pick xs (some b) (some (hW xs.length m a b)))::lM xs m k (a+1) (hW xs.length m a b)
theorem AQ{xs m q1 q2}:lM xs m 0 q1 q2=[]:=rfl
theorem AP{xs m k a b}:lM xs m (k+1) a b= .lst (pick xs (some b) (some (hW xs.length m a b)))::lM xs m k (a+1) (hW xs.length m a b):=rfl
noncomputable def iG(xs:List V)(w:Int):Int:=((xs.length:Int)+w-1).fdiv w
noncomputable def fZ(xs:List V)(w:Int):List V:=lM xs (iG xs w) (iG xs w).toNat 0 0
noncomputable def ED(x0 x1 x2 x3 x4 x5 x6:Option V):List (Str×Slot):=[("items",.loc x0),("width",.loc x1),("count",.loc x2),("rows",.loc x3),("begun",.loc x4),("at",.loc x5),("end",.loc x6),("len",.glob),("range",.glob)]
theorem nY{g:Gx}(P:PF g){xs:List V}{w:Int}(hz:xs.length≤1000)(h0:1≤w)(h1:w≤1000):Pure g 1 (P.fa 28) [.lst xs,.int w] (.lst (fZ xs w)):=by
 refine j4 (eR (n:=(xs.length:Int)+w-1) (w:=w) (by omega) (by omega)) fun d1 d2 d3 d4 d5=>?_
 obtain⟨m,hm⟩:∃m:Nat,iG xs w=(m:Int):=⟨(iG xs w).toNat,by unfold iG;exact cA [_] [_] (.eq (.c .w) .w) (.negSucc 0) (.eq .w (.c .w)) qq (Int.toNat_of_nonneg (d1))⟩
 have hm2:m≤2000:=by unfold iG at hm;exact uT [_,_] [_,_] (.Le .x (.n 1000)) 1 (.le .w (.n 1000)) 1 (.le .x (.s (.a (.c .x) .w) (.n 1))) 1 (.eq .x (.c .w)) (.negSucc 0) (.Le .w (.n 2000)) 0 qq hz h1 d2 hm
 refine aN (ps:=["items", "width"]) (P.i 28 rfl) (P.j 28 rfl) (fun _ _ _=>rfl) rfl fun c RR hRR hl hcel hcode hpins=>?_
 ·refine(?_:WX _ _ ⟨ED (some _) (some _) none none none none none,_⟩ _ _)
  refine aM (aD (aD (aD (aL P.b_len .builtin 7 rfl (a8 (a9 0 rfl (aA (bP (Nat.le_trans hz (by decide)) ?_))))))))
  refine a9 1 rfl (aJ (aC (bN (a9 1 rfl ?_))))
  refine cL (by(clear hcode hpins hcel hl hRR hm2 hm d5 d4 d3 d2 d1 hz;lia -abstractProof)) (PyProof.noPylong_small (by exact aI [_] [_] (.le .w (.n 1000)) 1 (.eq (.c .w) .w) 1 (.Lt .w (.n 1073741824)) 0 qq h1 (Int.natAbs_of_nonneg (aI [] [_,_] (.le (.n 0) .x) 1 (.lt .x .w) 1 (.le (.n 0) .w) 0 qq d3 d5)))) ?_
  rw[show((xs.length:Int)+w-1).fdiv w=(m:Int) from hm]
  refine d8 2 rfl ?_;refine aM ?_
  refine iA (aA ⟨by decide,fun s hs=>?_⟩)
  refine d8 3 rfl (aM (aC (d8 4 rfl ?_)))
  refine iJ ?_ ?_ ?_ ?_
  ·exact fun items σ=>t0 (fun k a (b:Int) p w1 w2=>a+k=m) (fun k a (b:Int) p w1 w2=>items=gH a k) (fun k a (b:Int) p w1 w2=>p.length=a) (fun k a (b:Int) p w1 w2=>p++lM xs m k a b=fZ xs w) (fun k a (b:Int) p w1 w2=>σ=⟨ED (some (.lst xs)) (some (.int w)) (some (.int m)) (some (.val (.ref s))) (some (.int b)) w1 w2,[(s,.lst p)]⟩)
  ·refine bH (aL P.b_range .type 8 rfl (a8 (a9 2 rfl (aA (fC ?_)))))
   refine⟨gH 0 m,?_,m,0,0,[],none,none,Nat.zero_add m,rfl,rfl,?_,rfl⟩
   ·have:=cX (a:=0) (n:=m) (by exact of_decide_eq_true rfl) (by exact aB [_] [] (.Le .w (.n 2000)) 1 (.Le .w (.n 10000)) 0 qq hm2);rwa [Nat.zero_add] at this
   ·unfold fZ;rw[hm];rfl
  ·intro JJ1 hJJ1 v r σ₁ z0
   refine t0.e z0 fun k a b p w1 w2 e1 e2 e3 e4 z1=>?_
   clear z0
   subst z1
   intro ps
   cases k with
   |zero=>cases e2
   |succ k=>
    cases e2
    refine bE 5 rfl (aM ?_)
    refine WE.join (.int (hW xs.length m a b)) ?_ ?_
    ·refine aD (aD (a9 4 rfl (aD (aL P.b_len .builtin 7 rfl (a8 (a9 0 rfl (aA (bP (Nat.le_trans hz (by decide)) ?_))))))))
     refine a9 2 rfl ?_
     refine cL (by(clear e4 hJJ1 hs hcode hpins hcel hl hRR hm2 hm d5 d4 d3 d2 d1 h1 h0 hz;lia -abstractProof)) (PyProof.noPylong_small (by exact aI [_,_] [] (.Le .x (.n 2000)) 1 (.eq (.c .w) (.c .x)) 1 (.Lt .w (.n 1073741824)) 0 qq hm2 (Int.natAbs_of_nonneg (aZ [_] [] (.le (.n 0) (.c .w)) 0 qq)))) ?_
     refine aJ (iB (aK (a9 5 rfl (aD (aL P.b_len .builtin 7 rfl (a8 (a9 0 rfl (aA ?_))))))))
     refine bP (Nat.le_trans hz (by decide)) (a9 2 rfl ?_)
     refine bW (by(clear e4 hJJ1 hs hcode hpins hcel hl hRR hm2 hm d5 d4 d3 d2 d1 h1 h0 hz;lia -abstractProof)) ?_
     refine q9 (kb ?_)
     refine bL (fun _=>?_) (fun _=>?_)
     ·rename_i e5;refine aC ?_;refine aJ ?_;exact⟨by unfold hW;rw[if_pos e5],rfl⟩
     ·rename_i e5;refine aC ?_;refine aJ ?_;exact⟨by unfold hW;rw[if_neg e5],rfl⟩
    ·refine d8 6 rfl (gZ (aY (a9 3 rfl (eA (fW (.here)) .builtin (a8 (kK (a9 0 rfl (eX ?_))))))))
     refine a9 4 rfl (nE (eX (a9 6 rfl (nE ?_))))
     refine⟨_,.lst (Nat.le_trans hz (by decide)),?_⟩
     refine aA ?_
     refine iW .here (by rw[e3];exact Nat.le_trans (show a≤2000 by exact aI [_,_,_] [] (.Le .x (.n 2000)) 1 (.Eq (.a .w (.a .y (.n 1))) .x) 1 (.Le .w (.n 2000)) 0 qq hm2 e1) (by decide)) ?_
     refine Aj (aM (a9 6 rfl (d8 4 rfl (aF (hJJ1 _ _ ?_)))))
     refine⟨k,a+1,hW xs.length m a b,p++[.lst (pick xs (some b) (some (hW xs.length m a b)))],_,_,by exact cA [_,_,_] [] (.Eq (.a .w (.a .x (.n 1))) .y) 1 (.Eq (.a (.a .w (.n 1)) .x) .y) qq e1,rfl,by rw[List.length_append,e3];rfl,?_,rfl⟩
     rw[List.append_assoc,←e4,AP];rfl
  ·intro σ₁ z0
   refine t0.e z0 fun k a b p w1 w2 e1 e2 e3 e4 z1=>?_
   clear z0
   subst z1
   cases k with
   |succ k=>cases e2
   |zero=>
    refine aF ?_
    refine aU (Ac (WE.frz ?_))
    refine a9 3 rfl ?_
    refine⟨s,_,_,_,_,_,hs,.here,.lst,.same,.here,hRR _ _ ⟨?_,rfl⟩⟩
    rw[←e4,AQ,List.append_nil]
theorem vM{g:Gx}(P:PF g){l:List (Int×V)}{l' :List (Int×V)}{a b a' b' :Int}:Pure g 1 (P.fa 30) [.lst [tR l a b,tR l' a' b']] (.dct [("Limits",rO a b'),("Kids",.lst [tR l a b,tR l' a' b'])]):=by
 refine aN (ps:=["kids"]) (P.i 30 rfl) (P.j 30 rfl) (fun _ _=>rfl) rfl fun c RR hRR hl hcel hcode hpins=>?_
 ·refine(?_:WX _ _ ⟨[("kids",.loc (some _))],_⟩ _ _)
  refine aO ?_
  refine fF ?_ ?_ ?_ ?_ ?_
  rotate_left
  rfl
  rfl
  simp
  decide
  intro D o
  refine bC (aE (kp (cF (a8 (aV (aV (aV (a9 0 rfl ?_))))))))
  refine aC (o_item_lst (j:=0) rfl rfl (by decide) (by decide) (aE (iQ (x:=rO a b) rfl (aC (o_item_lst (j:=0) rfl rfl (by decide) (by decide) (a8 (aV (aV ?_))))))))
  refine aV (a9 0 rfl (kJ (aC (bO (o_item_lst (j:=1) rfl rfl (by decide) (by decide) (aE (iQ (x:=rO a' b') rfl (aC ?_))))))))
  refine o_item_lst (j:=1) rfl rfl (by decide) (by decide) (aA (eB rfl (bC (aE (kp (a9 0 rfl (cV (hRR _ _ ?_))))))))
  exact⟨rfl,rfl⟩
noncomputable def oY(l:List (Str×V)):List (Str×V):=i0 [] (l.filter fun p=>p.1 != "Limits")
theorem uR(l m:List (Str×V))(k:Str)(v:V):d6 (i0 l m) k v=i0 l (m++[(k,v)]):=by unfold i0;rw[List.foldl_append];rfl
theorem yF{l r:List (Str×V)}{k:Str}{v:V}(h:((l++(k,v)::r).map (·.1)).Nodup):aT (l++(k,v)::r) k=some v:=by
 unfold aT
 rw[List.find?_append]
 have:l.find? (fun kv=>decide (kv.1=k))=none:=by
  rw[List.find?_eq_none]
  intro x hx
  rw[decide_eq_true_iff]
  intro e
  rw[List.map_append,List.nodup_append] at h
  exact h.2.2 x.1 (List.mem_map_of_mem hx) k (by simp) e
 rw[this]
 simp
theorem u8{g:Gx}(P:PF g){l:List (Str×V)}(hz:l.length≤100)(hn:(l.map (·.1)).Nodup):aS g 1 (.val (.ref (P.fa 31))) [.dct l] [] cK (fun v own=>∃D,v= .val (.ref D)∧own=[(D,.dct (oY l))]):=by
 refine aN (ps:=["node"]) (P.i 31 rfl) (P.j 31 rfl) (fun _ _=>rfl) rfl fun c RR hRR hl hcel hcode hpins=>?_
 ·refine(?_:WX _ _ ⟨[("node",.cel (some _))],_⟩ _ _)
  refine aO (DP (.loc (.loc (.fre .cel .nil))) (Fb (a9 0 rfl ?_)))
  refine⟨l,rfl,by rw[List.length_map];exact Nat.le_trans hz (by decide),rfl,fun r ys own=>cW (fun a b=>l=a++b) (fun a b=>r=b.map (fun p=>V.str p.1)) (fun a b=>ys=oY a) (fun a b=>own=[]),⟨[],l,rfl,rfl,rfl,rfl⟩,?_,?_⟩
  ·intro JJ2 hJJ2 x r ys own z0
   refine cW.e z0 fun a b e4 e5 e6 z1=>?_
   clear z0
   subst z1
   intro e ps B
   cases b with
   |nil=>cases e5
   |cons n b=>
    cases e5
    refine bE 1 rfl (A7 ?_)
    refine aK (a9 1 rfl (aE (iP (kb ?_))))
    refine bL (fun _=>?_) (fun _=>?_)
    ·rename_i e7
     refine a9 1 rfl (HR (aV (a9 2 rfl (a9 1 rfl ?_))))
     refine iQ (x:=n.2) (by rw[e4] at hn ⊢;exact yF hn) ?_
     refine hJJ2 _ _ _ ?_;exact⟨a++[n],b,by rw[List.append_assoc];exact e4,rfl,by rw[e6,oY,uR,oY,List.filter_append,List.filter_cons,if_pos e7,List.filter_nil],rfl⟩
    ·rename_i e7
     refine hJJ2 _ _ _ ?_;exact⟨a++[n],b,by rw[List.append_assoc];exact e4,rfl,by rw[e6,oY,oY,List.filter_append,List.filter_cons,if_neg e7,List.filter_nil,List.append_nil],rfl⟩
  ·intro ys own z0
   refine cW.e z0 fun a b e4 e5 e6 z1=>?_
   clear z0
   subst z1
   intro D hD
   cases b with
   |cons n b=>cases e5
   |nil=>
    rw[List.append_nil] at e4
    subst e4 e6
    refine hRR _ _ ?_;exact⟨D,rfl,rfl⟩
theorem tM{xs:List V}{w:Int}(hw:w=2∨w=3∨w=4)(h0:xs≠[])(h1:(xs.length:Int)≤w):fZ xs w=[.lst xs]:=by
 rcases xs with _|⟨a,_|⟨b,_|⟨d,_|⟨e,_|⟨f,r⟩⟩⟩⟩⟩
 ·exact absurd rfl h0
 ·rcases hw with rfl|rfl|rfl<;>kernel_rfl
 ·rcases hw with rfl|rfl|rfl<;>kernel_rfl
 ·rcases hw with rfl|rfl|rfl;exact absurd h1 (of_decide_eq_false rfl);kernel_rfl;kernel_rfl
 ·rcases hw with rfl|rfl|rfl;exact absurd h1 (of_decide_eq_false rfl);exact absurd h1 (of_decide_eq_false rfl);kernel_rfl
 ·have h:w≤4:=by rcases hw with rfl|rfl|rfl<;>decide
  exact absurd (Int.le_trans h1 h) (Int.not_le.mpr (Int.ofNat_lt.mpr (Nat.le_add_left 5 r.length)))
theorem AO{xs:List V}{w:Int}(hw:w=2∨w=3∨w=4)(h0:xs.length≤4)(h1:w<(xs.length:Int)):fZ xs w=[.lst (xs.take 2),.lst (xs.drop 2)]:=by
 rcases xs with _|⟨a,_|⟨b,_|⟨d,_|⟨e,_|⟨f,r⟩⟩⟩⟩⟩
 ·rcases hw with rfl|rfl|rfl<;>exact absurd h1 (of_decide_eq_false rfl)
 ·rcases hw with rfl|rfl|rfl<;>exact absurd h1 (of_decide_eq_false rfl)
 ·rcases hw with rfl|rfl|rfl<;>exact absurd h1 (of_decide_eq_false rfl)
 ·rcases hw with rfl|rfl|rfl;kernel_rfl;exact absurd h1 (of_decide_eq_false rfl);exact absurd h1 (of_decide_eq_false rfl)
 ·rcases hw with rfl|rfl|rfl;kernel_rfl;kernel_rfl;exact absurd h1 (of_decide_eq_false rfl)
 ·exact absurd h0 (Nat.not_le.mpr (Nat.le_add_left 5 r.length))
theorem DX.step{c:Cx}{test:Expr}{body orelse:List Stmt}{X:Value→St→Prop}{Q:Fl→St→Prop}{n:Nat}{σ:St}(h:WC c test σ X fun b σ₂=>if b then WX c body σ₂ X (LQ (DX c test body orelse X Q n) Q) else WX c orelse σ₂ X Q):DX c test body orelse X Q (n+1) σ:=h
structure DY(g:Gx)(fd:FuncData) where
 code:Addr
 tab:Addr
 hc:fd.code= .ref code
 at_:Ej g code tab
noncomputable def uX:List (Int×V)→Int
 | []=>0
 |p::_=>p.1
noncomputable def qP:List (Int×V)→Int
 | []=>0
 | [p]=>p.1
 |_::l=>qP l
noncomputable def c6(l:List (Int×V)):V:=tR l (uX l) (qP l)
noncomputable def f8(l:List (Int×V))(w:Int):List (Str×V):=
 if(l.length:Int)≤w then [("Nums",.lst (cO l))] else [("Kids",.lst [c6 (l.take 2),c6 (l.drop 2)])]
theorem zG:∀{l:List (Int×V)},l≠[]→∃a,l[0]? =some a∧a.1=uX l
 |a::l,_=>⟨a,rfl,rfl⟩
theorem rT:∀{l:List (Int×V)},l≠[]→∃a,l[l.length-1]? =some a∧a.1=qP l
 | [a],_=>⟨a,rfl,rfl⟩
 |a::b::l,_=>by
  refine aH (rT (l:=b::l) (by simp)) fun x h1 h2=>?_
  refine⟨x,?_,h2⟩
  simpa using h1
theorem Fk{g:Gx}(P:PF g){l:List (Int×V)}(h:l≠[])(hz:l.length≤1000):Pure g 2 (P.fa 29) [.str "Nums",.lst (bY l)] (c6 l):=by
 refine aH (zG h) fun a a1 a2=>aH (rT h) fun b b1 b2=>?_
 unfold c6
 rw[←a2,←b2]
 exact xV P a1 b1 hz
theorem lS(l:List (Int×V)):(bY l).length=l.length:=List.length_map ..
theorem z7(l:List (Int×V))(n:Nat):(bY l).take n=bY (l.take n):=(List.map_take ..).symm
theorem z9(l:List (Int×V))(n:Nat):(bY l).drop n=bY (l.drop n):=(List.map_drop ..).symm
theorem yS:sW (.rng 1 0 1) []:= .rng (n:=0) (by decide+kernel) (by decide+kernel)
theorem yK{n:Nat}(h:n≤10000):sW (.rng 1 (n:Int) 1) (gH 1 (n-1)):=by
 cases n with
 |zero=>exact yS
 |succ n=>
  have:=cX (a:=1) (n:=n) (by decide) (by exact aB [_] [] (.Le (.a .w (.n 1)) (.n 10000)) 1 (.Le .w (.n 10000)) 0 qq h)
  rw[Nat.add_comm] at this
  exact this
noncomputable def EC(x0 x1 x2 x3 x4:Option V):List (Str×Slot):=[("pairs",.loc x0),("word",.cel x1),("width",.loc x2),("rows",.loc x3),("at",.loc x4),("nodes",.loc none),("TreeFault",.glob),("sorted",.glob),("range",.glob),("len",.glob),("even_parts",.glob),("as_root",.glob)]
theorem vE{g:Gx}(P:PF g)(L:DY g (P.fd 32)){l:List (Int×V)}{w:Int}(hz:l.length≤4)(hs:(l.map (·.1)).Pairwise (·<·))(hw:w=2∨w=3∨w=4):
  aS g 4 (.val (.ref (P.fa 32))) [.lst (bY l),.str "Nums",.int w] [(L.tab,.raw (tabObj #[]))] cK (fun v own=>fT (fun D o=>v= .val (.ref D)) (fun D o=>own=[(D,.dct (f8 l w)),(L.tab,.raw (tabObj o))])):=by
 have hkl:=lS l
 refine aN (ps:=["pairs", "word", "width"]) (P.i 32 rfl) (P.j 32 rfl) (fun _ _ _ _=>rfl) rfl fun c RR hRR hl hcel hcode hpins=>?_
 ·refine(?_:WX _ _ ⟨EC (some _) (some _) (some _) none none,_⟩ _ _)
  refine bU ?_
  refine aK ?_
  refine a9 2 rfl ?_
  refine aC ?_
  refine q9 ?_
  refine kb ?_
  refine bI ?_
  refine bK (decide_eq_false (by exact m0 hw (fun q0=>aB [] [_] (.eq .w (.n 2)) (.negSucc 0) (.nlt .w (.n 2)) 0 (.refl true) q0) (fun q0=>m0 q0 (fun q1=>aB [] [_] (.eq .w (.n 3)) (.negSucc 0) (.nlt .w (.n 2)) 0 (.refl true) q1) (fun q1=>aB [] [_] (.eq .w (.n 4)) (.negSucc 0) (.nlt .w (.n 2)) 0 (.refl true) q1)))) ?_
  refine aF ?_;refine aM ?_
  refine CA ?_
  refine bG 7 rfl P.b_sorted ⟨.builtin,?_⟩
  refine a8 ?_
  refine a9 0 rfl ?_
  refine aA ?_
  refine s6 L.at_ (hcode.trans L.hc) (fun c' =>⟨_,.here,?_⟩) trivial rfl (.other (by decide) .nil) hpins
  refine Cd ⟨⟨_,_,_,_,_,rfl,rfl,by decide,fun fd h1 h2 h3 v=>by unfold bindArgs;rw[h1,h2];rfl⟩,rfl,rfl,rfl⟩ (by exact aB [_] [] (.Le .w (.n 4)) 1 (.Lt .w (.n 64)) 0 (.refl true) hz) hs ?_
  refine d8 3 rfl ?_
  have key:∀j:Nat,j<l.length→∃p,l[j]? =some p∧seqIndex? (j:Int) (bY l).length=some j∧(bY l)[j]? =some (.tup [.int p.1,p.2]):=fun j hj=>by
   refine⟨l[j],List.getElem?_eq_getElem hj,?_,by unfold bY;rw[List.getElem?_map,List.getElem?_eq_getElem hj];rfl⟩
   rw[hkl,bA (by exact aZ [_] [] (.le (.n 0) (.c .w)) 0 (.refl true)) (by exact aB [_,_] [] (.Lt .w .x) 1 (.lt (.c .w) (.c .x)) 0 (.refl true) hj)];rfl
  refine iJ ?_ ?_ ?_ ?_
  ·exact fun items σ=>jO (fun a k w1 o=>(a+k=l.length∨l=[]∧k=0∧a=1)) (fun a k w1 o=>1≤a) (fun a k w1 o=>items=gH a k) (fun a k w1 o=>σ=⟨EC (some (.lst (bY l))) (some (.str "Nums")) (some (.int w)) (some (.lst (bY l))) w1,[(L.tab,.raw (tabObj o))]⟩)
  ·refine bH ?_
   refine aL P.b_range .type 8 rfl ?_
   refine a8 ?_
   refine aC ?_
   refine a8 ?_
   refine aL P.b_len .builtin 9 rfl ?_
   refine a8 ?_
   refine a9 3 rfl ?_
   refine aA ?_
   refine bP (by rw[hkl];exact Nat.le_trans hz (by decide)) ?_
   refine aA ?_
   refine Ce ?_
   rw[hkl]
   refine⟨_,yK (by exact aB [_] [] (.Le .w (.n 4)) 1 (.Le .w (.n 10000)) 0 (.refl true) hz),1,l.length-1,none,_,?_,Nat.le_refl 1,rfl,rfl⟩
   cases l with
   |nil=>exact .inr ⟨rfl,rfl,rfl⟩
   |cons x l=>exact .inl (by simp only[List.length_cons];exact cA [_,_] [] (.Eq (.a .w (.n 1)) (.a .x (.n 1))) 1 (.Eq (.a (.n 1) .w) (.a .x (.n 1))) (.refl true) (Nat.sub_add_cancel (aZ [_] [] (.Le (.n 1) (.a .w (.n 1))) 0 (.refl true))))
  ·intro JJ1 hJJ1 v r σ₁ z0
   refine jO.e z0 fun a k w1 o e1 e2 e3 z1=>?_
   clear z0
   subst z1
   intro ps
   cases k with
   |zero=>cases e3
   |succ k=>
    cases e3
    obtain e1:a+(k+1)=l.length:=e1.resolve_right (by intro z0;refine eT z0 fun _ h _=>?_;clear z0;exact aB [_] [] (.Eq (.a .w (.n 1)) (.n 0)) 1 (.ff) 0 (.refl true) h)
    refine dT (key (a-1) (by omega)) fun p p1 p2 p3=>?_
    refine dT (key a (by omega)) fun q q1 q2 q3=>?_
    have hne:p.1≠q.1:=by
     have h1:(l.map (·.1))[a-1]? =some p.1:=by rw[List.getElem?_map,p1];rfl
     have h2:(l.map (·.1))[a]? =some q.1:=by rw[List.getElem?_map,q1];rfl
     obtain⟨i1,i2⟩:=List.getElem?_eq_some_iff.mp h1
     obtain⟨j1,j2⟩:=List.getElem?_eq_some_iff.mp h2
     have:=List.pairwise_iff_getElem.mp hs (a-1) a i1 j1 (by exact aB [_,_] [] (.Eq (.a .w (.n 1)) .x) 1 (.Lt .w .x) 0 (.refl true) (Nat.sub_add_cancel (e2)))
     (clear h2 h1 q3 q2 q1 p3 p2 p1 e1 e2 hJJ1 key hcode hRR hpins hcel hl hkl hw hs hz;lia -abstractProof)
    refine bE 4 rfl ?_
    refine bU ?_
    refine aK ?_
    refine aV ?_
    refine aV ?_
    refine a9 3 rfl ?_
    refine aD ?_
    refine a9 4 rfl ?_
    refine aC ?_
    refine bN ?_
    refine o_item_lst (j:=a-1) (by rw[show(a:Int)-1=((a-1:Nat):Int) by lia -abstractProof];exact p2) p3 (by exact aZ [_] [] (.le (.g (.n 9223372036854775808)) (.s (.c .w) (.n 1))) 0 (.refl true)) (by exact aI [_,_,_] [] (.Le .x (.n 4)) 1 (.Eq (.a .w (.a .y (.n 1))) .x) 1 (.lt (.s (.c .w) (.n 1)) (.n 9223372036854775808)) 0 (.refl true) hz e1) ?_
    refine aC ?_
    refine cD (j:=0) rfl rfl (by decide) (by decide) ?_
    refine aV ?_
    refine aV ?_
    refine a9 3 rfl ?_
    refine a9 4 rfl ?_
    refine o_item_lst (j:=a) q2 q3 (by exact aZ [_] [] (.le (.g (.n 9223372036854775808)) (.c .w)) 0 (.refl true)) (by exact aI [_,_,_] [] (.Le .x (.n 4)) 1 (.Eq (.a .w (.a .y (.n 1))) .x) 1 (.lt (.c .w) (.n 9223372036854775808)) 0 (.refl true) hz e1) ?_
    refine aC ?_
    refine cD (j:=0) rfl rfl (by decide) (by decide) ?_
    refine fA ?_
    refine kb ?_
    refine bI ?_
    refine bK (beq_eq_false_iff_ne.mpr hne) ?_
    refine aF ?_
    refine aF ?_
    refine hJJ1 _ _ ?_
    exact⟨a+1,k,_,o,.inl (by exact cA [_,_,_] [] (.Eq (.a .w (.a .x (.n 1))) .y) 1 (.Eq (.a (.a .w (.n 1)) .x) .y) (.refl true) e1),by exact aZ [_] [] (.Le (.n 1) (.a .w (.n 1))) 0 (.refl true),rfl,rfl⟩
  ·intro σ₁ z0
   refine jO.e z0 fun a k w1 o e1 e2 e3 z1=>?_
   clear z0
   subst z1
   cases k with
   |succ k=>cases e3
   |zero=>
    refine aF ?_
    refine bU ?_
    refine aK ?_
    refine aL P.b_len .builtin 9 rfl ?_
    refine a8 ?_
    refine a9 3 rfl ?_
    refine aA ?_
    refine bP (by rw[hkl];exact Nat.le_trans hz (by decide)) ?_
    refine aC ?_
    refine fA ?_
    refine kb ?_
    refine bI ?_
    rw[hkl]
    refine bL (fun _=>?_) (fun _=>?_)
    ·rename_i e4
     have:l=[]:=List.eq_nil_of_length_eq_zero (by have:=beq_iff_eq.mp e4;exact cA [_] [] (.eq (.c .w) (.n 0)) 1 (.Eq .w (.n 0)) (.refl true) this)
     subst this
     refine aO ?_
     refine Ap fun D od=>?_
     refine bC ?_
     refine a9 1 rfl ?_
     refine kp ?_
     refine cF ?_
     refine aA ?_
     refine eB rfl ?_
     refine cV ?_
     exact fun D hD=>by refine hRR _ _ ?_;exact⟨D,o,rfl,by unfold f8;rw[if_pos (by rcases hw with rfl|rfl|rfl<;>decide)];rfl⟩
    ·rename_i e4
     have hne:l≠[]:=fun q=>e4 (by rw[q];rfl)
     have hke:bY l≠[]:=fun q=>hne (List.map_eq_nil_iff.mp q)
     refine aF ?_
     have parts:∃ls:List (List (Int×V)),fZ (bY l) w=ls.map (fun x=>V.lst (bY x))∧(∀x∈ls,x≠[]∧x.length≤4)∧((ls=[l]∧(l.length:Int)≤w)∨(ls=[l.take 2,l.drop 2]∧w<l.length)):=by
      by_cases h:(l.length:Int)≤w
      ·exact⟨[l],by rw[tM hw hke (by rw[hkl];exact h)];rfl,fun x hx=>by rw[List.mem_singleton.mp hx];exact⟨hne,hz⟩,.inl ⟨rfl,h⟩⟩
      ·have h:w<(l.length:Int):=by exact aB [_] [_] (.nle (.c .w) .w) 1 (.lt .w (.c .w)) 0 (.refl true) h
       refine⟨[l.take 2,l.drop 2],by rw[AO hw (by rw[hkl];exact hz) (by rw[hkl];exact h),z7,z9];rfl,fun x hx=>?_,.inr ⟨rfl,h⟩⟩
       have h3:3≤l.length:=by exact m0 hw (fun q0=>aI [_] [_] (.lt .w (.c .w)) 1 (.eq .w (.n 2)) (.negSucc 0) (.Le (.n 3) .w) 0 (.refl true) h q0) (fun q0=>m0 e1 (fun q1=>m0 q0 (fun q2=>aI [_] [_] (.lt .w (.c .w)) 3 (.eq .w (.n 3)) (.negSucc 2) (.Le (.n 3) .w) 3 (.refl true) h q2) (fun q2=>aI [_] [_] (.lt .w (.c .w)) 3 (.eq .w (.n 4)) (.negSucc 2) (.Le (.n 3) .w) 4 (.refl true) h q2)) (fun q1=>m0 q0 (fun q2=>aI [_] [_] (.lt .w (.c .w)) 3 (.eq .w (.n 3)) (.negSucc 2) (.Le (.n 3) .w) 3 (.refl true) h q2) (fun q2=>aI [_] [_] (.lt .w (.c .w)) 3 (.eq .w (.n 4)) (.negSucc 2) (.Le (.n 3) .w) 4 (.refl true) h q2)))
       rcases List.mem_cons.mp hx with rfl|hx
       ·exact⟨fun q=>by have:=congrArg List.length q;rw[List.length_take,List.length_nil] at this;exact aI [_] [] (.Eq .w (.n 0)) 1 (.Eq .w (.n 2)) (.negSucc 0) (.ff) 1 (.refl true) this (Nat.min_eq_left (aB [_] [] (.Le (.n 3) .w) 2 (.Le (.n 2) .w) 2 (.refl true) h3)),by rw[List.length_take];exact aB [_] [] (.Eq .w (.n 2)) 1 (.Le .w (.n 4)) 0 (.refl true) (Nat.min_eq_left (aB [_] [] (.Le (.n 3) .w) 2 (.Le (.n 2) .w) 2 (.refl true) h3))⟩
       ·rw[List.mem_singleton.mp hx]
        exact⟨fun q=>by have:=congrArg List.length q;rw[List.length_drop,List.length_nil] at this;exact eQ [_,_] [] (.Le (.n 3) .w) 1 (.Eq .x (.n 0)) 1 (.Eq (.a .x (.n 2)) .w) (.negSucc 0) (.ff) 0 (.refl true) h3 this (Nat.sub_add_cancel (aB [_] [] (.Le (.n 3) .w) 2 (.Le (.n 2) .w) 2 (.refl true) h3)),by rw[List.length_drop];exact aI [_,_] [] (.Le .x (.n 4)) 1 (.Eq (.a .w (.n 2)) .x) 1 (.Le .w (.n 4)) 0 (.refl true) hz (Nat.sub_add_cancel (aB [_] [] (.Le (.n 3) .w) 2 (.Le (.n 2) .w) 2 (.refl true) h3))⟩
     refine dT parts fun ls hp hx hls=>?_
     clear parts
     refine aU (f9 (.loc (.loc (.glob (.fre (.skip .cel) .nil)))) (.skip (.skip (.skip (.skip (.skip .here))))) ?_)
     refine bH ?_
     refine aX (P.i 28 rfl) 10 rfl ?_
     refine a8 ?_
     refine a9 3 rfl ?_
     refine a8 ?_
     refine a9 2 rfl ?_
     refine aA ?_
     refine⟨1,_,show 1≤c.lvl by exact lv hl,nY P (by rw[hkl];exact aB [_] [] (.Le .w (.n 4)) 1 (.Le .w (.n 1000)) 0 (.refl true) hz) (by exact m0 hw (fun q0=>aB [] [_] (.eq .w (.n 2)) (.negSucc 0) (.le (.n 1) .w) 0 (.refl true) q0) (fun q0=>m0 e1 (fun q1=>m0 q0 (fun q2=>aB [] [_] (.eq .w (.n 3)) (.negSucc 0) (.le (.n 1) .w) 0 (.refl true) q2) (fun q2=>aB [] [_] (.eq .w (.n 4)) (.negSucc 0) (.le (.n 1) .w) 0 (.refl true) q2)) (fun q1=>m0 q0 (fun q2=>aB [] [_] (.eq .w (.n 3)) (.negSucc 0) (.le (.n 1) .w) 0 (.refl true) q2) (fun q2=>aB [] [_] (.eq .w (.n 4)) (.negSucc 0) (.le (.n 1) .w) 0 (.refl true) q2)))) (by exact m0 hw (fun q0=>aB [] [_] (.eq .w (.n 2)) 1 (.le .w (.n 1000)) 0 (.refl true) q0) (fun q0=>m0 e1 (fun q1=>m0 q0 (fun q2=>aB [] [_] (.eq .w (.n 3)) 1 (.le .w (.n 1000)) 0 (.refl true) q2) (fun q2=>aB [] [_] (.eq .w (.n 4)) 1 (.le .w (.n 1000)) 0 (.refl true) q2)) (fun q1=>m0 q0 (fun q2=>aB [] [_] (.eq .w (.n 3)) 1 (.le .w (.n 1000)) 0 (.refl true) q2) (fun q2=>aB [] [_] (.eq .w (.n 4)) 1 (.le .w (.n 1000)) 0 (.refl true) q2)))),?_⟩
     rw[hp]
     refine⟨_,.lst,B3 ls (fun x=>V.lst (bY x)) (c6) (R:=ls.map c6) rfl rfl (by rcases hls with⟨rfl,_⟩|⟨rfl,_⟩<;>exact Nat.le_of_ble_eq_true rfl) (fun n hm_ J_ ys hJ_ e ps B=>?_) ?_⟩
     ·refine aG (hx n hm_) fun n1 n2=>?_
      refine bE 1 rfl (f6 ?_)
      refine fV rfl ?_
      refine aX (P.i 29 rfl) 2 rfl ?_
      refine a8 ?_
      refine a9 3 rfl ?_
      refine a8 ?_
      refine a9 1 rfl ?_
      refine aA ?_
      refine⟨2,_,show 2≤c.lvl by exact lv hl,Fk (g:=g) P n1 (by exact aB [_] [] (.Le .w (.n 4)) 1 (.Le .w (.n 1000)) 0 (.refl true) n2),?_⟩
      exact hJ_
     refine d8 5 rfl ?_
     have two:∀x y:List (Int×V),fZ [c6 x,c6 y] w=[.lst [c6 x,c6 y]]:=fun x y=>tM hw (by simp) (by show(2:Int)≤w;exact m0 hw (fun q0=>aB [] [_] (.eq .w (.n 2)) (.negSucc 0) (.le (.n 2) .w) 0 (.refl true) q0) (fun q0=>m0 e1 (fun q1=>m0 q0 (fun q2=>aB [] [_] (.eq .w (.n 3)) (.negSucc 0) (.le (.n 2) .w) 0 (.refl true) q2) (fun q2=>aB [] [_] (.eq .w (.n 4)) (.negSucc 0) (.le (.n 2) .w) 0 (.refl true) q2)) (fun q1=>m0 q0 (fun q2=>aB [] [_] (.eq .w (.n 3)) (.negSucc 0) (.le (.n 2) .w) 0 (.refl true) q2) (fun q2=>aB [] [_] (.eq .w (.n 4)) (.negSucc 0) (.le (.n 2) .w) 0 (.refl true) q2))))
     rcases hls with⟨rfl,h⟩|⟨rfl,h⟩
     ·refine aU (wI 1 ?_)
      refine DX.step ?_
      refine aK ?_
      refine aL P.b_len .builtin 9 rfl ?_
      refine a8 ?_
      refine a9 5 rfl ?_
      refine aA ?_
      refine bP (Nat.le_of_ble_eq_true rfl) ?_
      refine aC ?_
      refine qA ?_
      refine kb ?_
      refine bK rfl ?_
      refine aF ?_;refine aO ?_
      refine bM (P.i 31 rfl) 11 rfl ?_
      refine a8 ?_
      refine aV ?_
      refine a9 5 rfl ?_
      refine aC ?_
      refine o_item_lst (j:=0) rfl rfl (by decide) (by decide) ?_
      refine aA ?_
      refine⟨1,[],_,_,_,by exact lv hl,cT.none,u8 P (by exact Nat.le_of_ble_eq_true (m:=100) rfl) (by exact(show([("Limits" :Str), "Nums"]:List Str).Nodup by decide)),fun x own' _ hx=>?_,fun _ _ hx=>hx.elim⟩
      refine aH hx fun D z2 z3=>?_
      clear hx
      subst z2
      subst z3
      refine hRR _ _ ?_;exact⟨D,o,rfl,by unfold f8;rw[if_pos h];rfl⟩
     ·refine aU (wI 2 ?_)
      refine DX.step ?_
      refine aK ?_
      refine aL P.b_len .builtin 9 rfl ?_
      refine a8 ?_
      refine a9 5 rfl ?_
      refine aA ?_
      refine bP (Nat.le_of_ble_eq_true rfl) ?_
      refine aC ?_
      refine qA ?_
      refine kb ?_
      refine cU rfl ?_
      refine aU (f9 (.loc (.loc (.glob .nil))) (.skip (.skip (.skip (.skip (.skip .here))))) ?_)
      refine bH ?_
      refine aX (P.i 28 rfl) 10 rfl ?_
      refine a8 ?_
      refine a9 5 rfl ?_
      refine a8 ?_
      refine a9 2 rfl ?_
      refine aA ?_
      refine⟨1,_,show 1≤c.lvl by exact lv hl,nY P (by exact Nat.le_of_ble_eq_true rfl) (by exact m0 hw (fun q0=>aB [] [_] (.eq .w (.n 2)) (.negSucc 0) (.le (.n 1) .w) 0 (.refl true) q0) (fun q0=>m0 e1 (fun q1=>m0 q0 (fun q2=>aB [] [_] (.eq .w (.n 3)) (.negSucc 0) (.le (.n 1) .w) 0 (.refl true) q2) (fun q2=>aB [] [_] (.eq .w (.n 4)) (.negSucc 0) (.le (.n 1) .w) 0 (.refl true) q2)) (fun q1=>m0 q0 (fun q2=>aB [] [_] (.eq .w (.n 3)) (.negSucc 0) (.le (.n 1) .w) 0 (.refl true) q2) (fun q2=>aB [] [_] (.eq .w (.n 4)) (.negSucc 0) (.le (.n 1) .w) 0 (.refl true) q2)))) (by exact aI [_] [_] (.Le .w (.n 4)) 1 (.lt .w (.c .w)) 1 (.le .w (.n 1000)) 0 (.refl true) hz h),?_⟩
      rw[show([l.take 2,l.drop 2].map c6)=[c6 (l.take 2),c6 (l.drop 2)] from rfl,two]
      refine⟨[.lst [c6 (l.take 2),c6 (l.drop 2)]],.lst,by exact Nat.le_of_ble_eq_true rfl,rfl,fun r ys own=>(r=[.lst [c6 (l.take 2),c6 (l.drop 2)]]∧ys=[]∨r=[]∧ys=[.dct [("Limits",rO (uX (l.take 2)) (qP (l.drop 2))),("Kids",.lst [c6 (l.take 2),c6 (l.drop 2)])]])∧own=[(L.tab,.raw (tabObj o))],⟨.inl ⟨rfl,rfl⟩,rfl⟩,?_,?_⟩
      ·intro JJ3 hJJ3 x r ys own z0
       refine aG z0 fun f5 z1=>?_
       clear z0
       subst z1
       intro e ps B
       rcases f5 with⟨f5,rfl⟩|⟨f5,_⟩
       ·cases f5
        refine bE 1 rfl (f6 ?_)
        refine fV rfl ?_
        refine aX (P.i 30 rfl) 2 rfl ?_
        refine a8 ?_
        refine a9 1 rfl ?_
        refine aA ?_
        exact⟨1,_,show 1≤c.lvl by exact lv hl,vM (g:=g) P,hJJ3 _ _ _ ⟨.inr ⟨rfl,rfl⟩,rfl⟩⟩
       ·cases f5
      intro ys own z0
      refine aG z0 fun f5 z1=>?_
      clear z0
      subst z1
      obtain rfl:=(f5.resolve_left (by intro z0;refine aG z0 fun q _=>?_;clear z0;cases q)).2
      refine d8 5 rfl ?_;refine aF ?_
      refine DX.step ?_
      refine aK ?_
      refine aL P.b_len .builtin 9 rfl ?_
      refine a8 ?_
      refine a9 5 rfl ?_
      refine aA ?_
      refine bP (Nat.le_of_ble_eq_true rfl) ?_
      refine aC ?_
      refine qA ?_
      refine kb ?_
      refine bK rfl ?_
      refine aF ?_;refine aO ?_
      refine bM (P.i 31 rfl) 11 rfl ?_
      refine a8 ?_
      refine aV ?_
      refine a9 5 rfl ?_
      refine aC ?_
      refine o_item_lst (j:=0) rfl rfl (by decide) (by decide) ?_
      refine aA ?_
      refine⟨1,[],_,_,_,by exact lv hl,cT.none,u8 P (by exact Nat.le_of_ble_eq_true (m:=100) rfl) (by exact(show([("Limits" :Str), "Kids"]:List Str).Nodup by decide)),fun x own' _ hx=>?_,fun _ _ hx=>hx.elim⟩
      refine aH hx fun D z2 z3=>?_
      clear hx
      subst z2
      subst z3
      refine hRR _ _ ?_;exact⟨D,o,rfl,by unfold f8;rw[if_neg (by exact aB [_] [_] (.lt .w (.c .w)) 1 (.nle (.c .w) .w) 0 (.refl true) h)];rfl⟩
theorem xQ{g:Gx}{name:Str}{k:Nat}{f:Addr}{fd:FuncData}{ps:List Str}{xs xs' :List V}{own:List (Addr×OV)}{X:XO}{Q:V→List (Addr×OV)→Prop}{n:Nat}{env₀:List (Str×Slot)}(hf:pG g name k f fd)
  (hbind:∀B (s:Shared) vs,(∀a o,g.T.get? a=some o→s.heap.get? a=some o)→(∀a o,g.T.get? a=some o→B a=some o)→Reps g B xs vs→∃vs',BindsTo s fd ⟨vs,[]⟩ (ps.zip vs')∧Reps g B xs' vs')
  (hps:autoParam (ps.Nodup) mV) (hlen:autoParam (ps.length=xs'.length) c8) (hkind:autoParam (∀p∈ps,(p,NameKind.local)∈(kH k).names∨(p,NameKind.cell)∈(kH k).names) mV)
  (he:autoParam (j8 (ps.zip xs') (kH k).names=env₀) c8)
  (h:∀c:Cx,∀R:V→List (Addr×OV)→Prop,(∀v o,Q v o→R v o)→(c.of g).lvl=n→kP (c.of g)→(c.of g).env.code=fd.code→(c.of g).pins=[]→WX (c.of g) (oR k) ⟨env₀,own⟩ (FX X) (FQ R)):aS g (n+1) (.val (.ref f)) xs own X Q:=
 s8 hf.fn hbind hps hlen (by rw[hf.sc];exact hkind) (by rw[hf.sc];exact he) h
theorem CT{last:Int}{r:Rg}(h:gO last r=false):last<r.first:=by
 unfold gO at h
 rw[Bool.or_eq_false_iff] at h
 have:=of_decide_eq_false h.1
 exact aB [] [_,_] (.nle .x .w) 1 (.lt .w .x) 0 qq this
theorem zN(l:List Rg):∀last:Int,chk last l=true→(∀r∈l,last<r.first)∧(l.map (·.first)).Pairwise (·<·):=by
 induction l with
 |nil=>exact fun _ _=>⟨fun r h=>(nomatch h),List.Pairwise.nil⟩
 |cons x l ih=>
  intro last h
  rw[s7,Bool.and_eq_true,Bool.not_eq_true'] at h
  refine aG (ih x.first h.2) fun h1 h2=>?_
  have h3:=CT h.1
  refine⟨fun r hr=>?_,List.pairwise_cons.mpr ⟨fun y hy=>?_,h2⟩⟩
  ·rcases List.mem_cons.mp hr with rfl|hr
   ·exact h3
   ·exact Int.lt_trans h3 (h1 r hr)
  ·refine aH (List.mem_map.mp hy) fun r hr z2=>?_
   subst z2
   exact h1 r hr
noncomputable def bT{g:Gx}(O:PO g)(r:Rg):Int×V:=(r.first,.dct (bJ O r.style r.pre r.start))
structure FI(g:Gx)(P:PF g):Prop where
 d:∃t,sG g (P.fd 58) #[.int 16 t]
noncomputable def EB(x0 x1:Option V):List (Str×Slot):=[("ranges",.loc x0),("width",.loc x1),("pairs",.loc none),("check_ranges",.glob),("tree_built",.glob)]
theorem DU{g:Gx}(P:PF g)(E:PE g)(O:PO g)(D:FI g P)(L:DY g (P.fd 32)){l:List Rg}{w:Int}(hz:l.length≤4)(hk:∀r∈l,vS r)(hc:chk (-1) l=true)(hw:w=2∨w=3∨w=4):
  aS g 5 (.val (.ref (P.fa 58))) [.lst (l.map Rg.v),.int w] [(L.tab,.raw (tabObj #[]))] cK (fun v own=>fT (fun D o=>v= .val (.ref D)) (fun D o=>own=[(D,.dct (f8 (l.map (bT O)) w)),(L.tab,.raw (tabObj o))])):=by
 refine cI D.d fun t z0=>jP.e z0 fun T oT nT hT hg hdt=>?_
 clear z0
 refine xQ (ps:=["ranges", "width"]) (xs' :=[.lst (l.map Rg.v),.int w]) (P.i 58 rfl) (fun B s vs h1 h2 hr=>?_) (by decide) rfl (by decide) rfl fun c RR hRR hl hcel hcode hpins=>?_
 ·refine cJ.e hr.two fun u v z0 a b=>?_
  subst z0
  exact⟨[_,_],BindsTo.of_defaults hT (h1 _ _ hg) hdt (by unfold bindArgs;rw[(P.i 58 rfl).ps,(P.i 58 rfl).kd];rfl) rfl,.cons a (.cons b .nil)⟩
 ·refine(?_:WX _ _ ⟨EB (some _) (some _),_⟩ _ _)
  refine gZ (bM (P.i 52 rfl) 3 rfl (a8 (a9 0 rfl (aA ?_))))
  refine⟨3,[],_,_,_,by exact lv hl,cT.none,vN P E,fun x own' _ hx=>?_,fun _ _ hx=>?_⟩
  ·refine aG hx fun z0 z1=>?_
   clear hx
   refine aG z0 fun z3 _=>?_
   clear z0
   subst z3
   subst z1
   refine Aj ?_
   refine aU (f9 (.loc (.loc (.loc (.loc (.loc (.glob .nil)))))) (.skip (.skip .here)) ?_)
   refine bH (a9 0 rfl ?_)
   refine⟨_,.lst,B3 l (Rg.v) (fun r=>V.tup [.int (bT O r).1,(bT O r).2]) (R:=bY (l.map (bT O))) rfl (by unfold bY;rw[List.map_map];rfl) (Nat.le_trans hz (by decide)) (fun n hm_ J_ ys hJ_ e ps B=>?_) ?_⟩
   ·have ok:=hk n hm_
    have:=ok.pl
    refine gW (.cons (.cons (.cons (.cons .nil)))) (.cons (aR 1 rfl) (.cons (aR 2 rfl) (.cons (aR 3 rfl) (.cons (aR 4 rfl) .nil)))) (f6 ?_)
    refine fV rfl (bS (a8 (a9 1 rfl (a8 (aX (P.i 57 rfl) 5 rfl (a8 (a9 2 rfl (a8 ?_))))))))
    refine a9 3 rfl (a8 (a9 4 rfl (aA ?_)))
    refine⟨3,_,show 3≤c.lvl by exact lv hl,vL (g:=g) P O (by exact aB [_] [] (.Le .w (.n 10)) 1 (.Le .w (.n 1000)) 0 qq this) ok.po,?_⟩
    exact aA (dA rfl (hJ_))
   refine d8 2 rfl ?_;refine aO ?_
   refine bM (P.i 32 rfl) 4 rfl (a8 (a9 2 rfl (a8 (aE (a8 (a9 1 rfl (aA ?_)))))))
   refine⟨4,_,[],_,_,by exact lv hl,cT.all,vE P L (by rw[List.length_map];exact hz) ?_ hw,fun x own' _ hx=>?_,fun _ _ hx=>hx.elim⟩
   ·rw[List.map_map];exact(zN l (-1) hc).2
   refine fT.e hx fun D o z0 z1=>?_
   clear hx
   subst z0
   subst z1
   refine hRR _ _ ?_;exact⟨D,o,rfl,rfl⟩
  ·refine aG hx fun z0 _=>?_
   clear hx
   refine aG z0 fun _ h=>?_
   clear z0
   rw[hc] at h;cases h
theorem xR{g:Gx}(P:PF g)(E:PE g)(D:FI g P){l:List Rg}(hc:chk (-1) l=false):
  aS g 5 (.val (.ref (P.fa 58))) [.lst (l.map Rg.v)] [] (fun cls own=>cls= .ref E.tf∧own=[]) (fun v own=>False):=by
 refine cI D.d fun t z0=>jP.e z0 fun T oT nT hT hg hdt=>?_
 clear z0
 refine xQ (ps:=["ranges", "width"]) (xs' :=[.lst (l.map Rg.v),.int 16]) (P.i 58 rfl) (fun B s vs h1 h2 hr=>?_) (by decide) rfl (by decide) rfl fun c RR hRR hl hcel hcode hpins=>?_
 ·cases hr with
  |cons a hr=>
   cases hr
   exact⟨[_,.int 16 t],BindsTo.of_defaults hT (h1 _ _ hg) hdt (by unfold bindArgs;rw[(P.i 58 rfl).ps,(P.i 58 rfl).kd];rfl) rfl,.cons a (.cons .int .nil)⟩
 ·refine(?_:WX _ _ ⟨EB (some _) (some _),_⟩ _ _)
  refine gZ (bM (P.i 52 rfl) 3 rfl (a8 (a9 0 rfl (aA ?_))))
  refine⟨3,[],_,_,_,by exact lv hl,cT.none,vN P E,fun x own' _ hx=>?_,fun _ _ hx=>?_⟩
  ·refine aG hx fun z0 _=>?_
   clear hx
   refine aG z0 fun _ h=>?_
   clear z0
   rw[hc] at h;cases h
  ·refine aG hx fun z0 z1=>?_
   clear hx
   refine aG z0 fun z3 h=>?_
   clear z0
   subst z3
   subst z1
   exact⟨rfl,rfl⟩
structure Me(g:Gx)(C:Addr)(name:Str)(k j:Nat)(f:Addr)(fd:FuncData):Prop where
 ok:pE g.K C name f
 im:Gw g k j f fd
 df:fd.defaults= .none
structure PM(g:Gx)(O:PO g) where
 fe:Addr
 feF:FuncData
 mFe:Me g O.sh "fetch" 17 1 fe feF
 ge:Addr
 geF:FuncData
 mGe:Me g O.sh "get" 17 2 ge geF
 ad:Addr
 adF:FuncData
 mAd:Me g O.sh "add" 18 1 ad adF
 ro:Addr
 roF:FuncData
 mRo:Me g O.sh "root" 18 4 ro roF
 aTable:g0 g.K O.sh "table"
 aTrailer:g0 g.K O.sh "trailer"
 aNumber:g0 g.K O.rf "number"
 aGen:g0 g.K O.rf "generation"
 aText:g0 g.K O.nm "text"
 aOct:g0 g.K O.st "octets"
 iRR:isIn g.K (.ref O.rf) O.rf=true
 iNN:isIn g.K (.ref O.nm) O.nm=true
 iSS:isIn g.K (.ref O.st) O.st=true
 nN:lY g.K O.nm
 nS:lY g.K O.st
 kNR:kin_not g.K O.nm O.rf=true
 kSR:kin_not g.K O.st O.rf=true
 kNS:kin_not g.K O.nm O.st=true
 tSi:kin_notT g.K O.st "int" =true
 iR:isNotIn g.K "int" O.rf=true
 bR:isNotIn g.K "bool" O.rf=true
 nR:isNotIn g.K "NoneType" O.rf=true
 dR:isNotIn g.K "dict" O.rf=true
 lR:isNotIn g.K "list" O.rf=true
 iN:isNotIn g.K "int" O.nm=true
 nNm:isNotIn g.K "NoneType" O.nm=true
inductive j3{g:Gx}(O:PO g):V→Prop
 |int {n}:j3 O (.int n)
 |bool {b}:j3 O (.bool b)
 |none:j3 O .none
 |dct {l}:j3 O (.dct l)
 |lst {l}:j3 O (.lst l)
 |nm {x}:j3 O (jX O x)
 |st {b}:j3 O (sO O b)
inductive Fe{g:Gx}(O:PO g)(t:List (Int×V)):V→V→Prop
 |plain {x}:j3 O x→Fe O t x x
 |hop {k x}:aT t k=some (.tup [.int 0,x])→j3 O x→Fe O t (lZ O k 0) x
theorem Fe.out{g:Gx}{O:PO g}{t:List (Int×V)}{x y:V}(h:Fe O t x y):j3 O y:=by cases h<;>assumption
theorem kD{c:Cx}{σ:St}{X:Value→St→Prop}{Q:V→St→Prop}{O:PO c.g}(M:PM c.g O){x:V}(h:j3 O x)(hq:Q (.bool false) σ):WK c (.val (.builtin "isinstance")) [x,.val (.ref O.rf)] σ X Q:=by
 cases h with
 |int=>exact oN M.iR hq
 |bool=>exact zC M.bR hq
 |none=>exact rV M.nR hq
 |dct=>exact B9 M.dR hq
 |lst=>exact B8 M.lR hq
 |nm=>exact rW M.nN M.kNR hq
 |st=>exact rW M.nS M.kSR hq
noncomputable def EA(x0 x1 x2 x3 x4 x5:Option V):List (Str×Slot):=[("self",.loc x0),("value",.loc x1),("here",.loc x2),("hop",.loc x3),("generation",.loc x4),("found",.loc x5),("range",.glob),("MOST_HOPS",.glob),("isinstance",.glob),("Reference",.glob)]
theorem lX{g:Gx}(P:PF g){O:PO g}(M:PM g O){ta ra:Addr}{t:List (Int×V)}{x y:V}(h:Fe O t x y):
  aS g 1 (.val (.ref M.fe)) [cG O ta ra,x] [(ta,.idct t)] cK (fun v own=>v=y∧own=[(ta,.idct t)]):=by
 have ho:=h.out
 refine jM (ps:=["self", "value"]) (xs' :=[cG O ta ra,x]) M.mFe.im (fun B s vs h1 h2 hr=>?_) (by decide) rfl (by decide) rfl fun c RR hRR hl hcel hcode hpins=>?_
 ·refine cJ.e hr.two fun u v z0 a b=>?_
  subst z0
  exact⟨[_,_],BindsTo.of_eq ((bindC M.mFe.im.ps M.mFe.df M.mFe.im.kd).trans rfl),.cons a (.cons b .nil)⟩
 ·have gR:=O.cR.gl
  refine(?_:WX _ _ ⟨EA (some _) (some _) none none none none,_⟩ _ _)
  refine aM (a9 1 rfl (d8 2 rfl ?_))
  refine iJ ?_ ?_ ?_ ?_
  ·exact fun items σ=>t5 (fun z w1 w2 w3=>(items.length=30∧z=x∨items.length=29∧z=y)) (fun z w1 w2 w3=>σ=⟨EA (some (cG O ta ra)) (some x) (some z) w1 w2 w3,[(ta,.idct t)]⟩)
  ·exact bH (aL P.b_range .type 6 rfl (a8 (bG 7 rfl P.g_MOST_HOPS (aA (fC (⟨gH 0 30,cX (a:=0) (n:=30) (by decide) (by decide),x,none,none,none,.inl ⟨iK 0 30,rfl⟩,rfl⟩))))))
  ·intro JJ1 hJJ1 v r σ₁ z0
   refine t5.e z0 fun z w1 w2 w3 e1 z1=>?_
   clear z0
   subst z1
   intro ps
   refine bE 3 rfl ?_
   rcases e1 with⟨e1,rfl⟩|⟨e1,rfl⟩
   ·cases h with
    |plain hn=>
     refine bU (fD (dP (aL P.b_isinstance .builtin 8 rfl (a8 (a9 2 rfl (a8 (bG 9 rfl (by assumption) (aA ?_))))))))
     exact kD (c:=(c.of g).pin ps) M hn (kb (hH rfl (aO (a9 2 rfl (hRR _ _ (⟨rfl,rfl⟩))))))
    | @hop k x hv hn=>
     refine bU (fD (dP (aL P.b_isinstance .builtin 8 rfl (a8 (a9 2 rfl (a8 (bG 9 rfl (by assumption) (aA ?_))))))))
     refine lU M.iRR (kb (gK rfl (aF ?_)))
     refine aU (mZ ?_)
     refine aY (jK (a9 0 rfl (jF M.aTable rfl rfl ?_)))
     refine⟨_,Dk .here,.builtin,?_⟩
     refine a8 (jK (a9 2 rfl (jF M.aNumber rfl rfl (a8 (bS (a8 (kJ (aC ?_))))))))
     refine bO (a8 (cE (aA (dA rfl (aA (DH .here ?_))))))
     rw[hv]
     refine gW (.cons (.cons .nil)) (.cons (aR 4 rfl) (.cons (aR 5 rfl) .nil)) (bU (aK (a9 4 rfl (jK (a9 2 rfl (jF M.aGen rfl rfl (l4 (kb ?_))))))))
     refine bI (bK rfl (aF (aM (a9 5 rfl (d8 2 rfl (aF (hJJ1 _ _ ?_)))))))
     exact⟨_,_,_,_,.inr ⟨by rw[List.length_cons] at e1;exact cA [_] [] (.Eq (.a .w (.n 1)) (.n 30)) 1 (.Eq .w (.n 29)) qq e1,rfl⟩,rfl⟩
   ·refine bU (fD (dP (aL P.b_isinstance .builtin 8 rfl (a8 (a9 2 rfl (a8 (bG 9 rfl (by assumption) (aA ?_))))))))
    exact kD (c:=(c.of g).pin ps) M ho (kb (hH rfl (aO (a9 2 rfl (hRR _ _ (⟨rfl,rfl⟩))))))
  ·intro σ₁ z0
   refine t5.e z0 fun z w1 w2 w3 e1 z1=>?_
   clear z0
   subst z1
   rcases e1 with⟨e1,_⟩|⟨e1,_⟩<;>cases e1
noncomputable def Dd(x0 x1 x2:Option V):List (Str×Slot):=[("self",.loc x0),("head",.loc x1),("key",.loc x2)]
theorem u7{g:Gx}(P:PF g){O:PO g}(M:PM g O){ta ra:Addr}{t:List (Int×V)}{m:List (Str×V)}{k:Str}{y:V}(h:Fe O t ((aT m k).getD .none) y):
  aS g 2 (.val (.ref M.ge)) [cG O ta ra,.dct m,.str k] [(ta,.idct t)] cK (fun v own=>v=y∧own=[(ta,.idct t)]):=by
 refine jM (ps:=["self", "head", "key"]) (xs' :=[cG O ta ra,.dct m,.str k]) M.mGe.im (fun B s vs h1 h2 hr=>?_) (by decide) rfl (by decide) rfl fun c RR hRR hl hcel hcode hpins=>?_
 ·refine gY.e hr.three fun u v w z0 a b d=>?_
  subst z0
  exact⟨[_,_,_],BindsTo.of_eq ((bindC M.mGe.im.ps M.mGe.df M.mGe.im.kd).trans rfl),.cons a (.cons b (.cons d .nil))⟩
 ·refine(?_:WX _ _ ⟨Dd (some _) (some _) (some _),_⟩ _ _)
  refine aO (aY (a9 0 rfl ?_))
  refine⟨_,dU M.mFe.ok rfl,.fn M.mFe.im.fn,?_⟩
  refine a8 (aY (a9 1 rfl (eA EN .builtin (a8 (a9 2 rfl (aA (F9 (aA ?_))))))))
  exact pS (XC:=cK) cT.all (by exact lv hl) (lX P M h) (fun x own' _ hx=>by refine aG hx fun z0 z1=>?_;clear hx;subst z0;subst z1;exact hRR _ _ ⟨rfl,rfl⟩) fun _ _ hx=>hx.elim
theorem Fm{g:Gx}(P:PF g){O:PO g}(M:PM g O){ta ra:Addr}{t:List (Int×V)}{m:List (Str×V)}{k:Str}{y:V}(h:Fe O t ((aT m k).getD .none) y):
  aS g 2 (.val (.ref M.ge)) [cG O ta ra,.val (.ref ra),.str k] [(ra,.dct m),(ta,.idct t)] cK (fun v own=>v=y∧own=[(ta,.idct t),(ra,.dct m)]):=by
 refine jM (ps:=["self", "head", "key"]) (xs' :=[cG O ta ra,.val (.ref ra),.str k]) M.mGe.im (fun B s vs h1 h2 hr=>?_) (by decide) rfl (by decide) rfl fun c RR hRR hl hcel hcode hpins=>?_
 ·refine gY.e hr.three fun u v w z0 a b d=>?_
  subst z0
  exact⟨[_,_,_],BindsTo.of_eq ((bindC M.mGe.im.ps M.mGe.df M.mGe.im.kd).trans rfl),.cons a (.cons b (.cons d .nil))⟩
 ·refine(?_:WX _ _ ⟨Dd (some _) (some _) (some _),_⟩ _ _)
  refine aO (aY (a9 0 rfl ?_))
  refine⟨_,dU M.mFe.ok rfl,.fn M.mFe.im.fn,?_⟩
  refine a8 (aY (a9 1 rfl ?_))
  refine⟨_,Dj .here,.builtin,?_⟩
  refine a8 (a9 2 rfl (aA (DI .here (aA ?_))))
  exact pS (XC:=cK) (.keep (.take .nil)) (by exact lv hl) (lX P M h) (fun x own' _ hx=>by refine aG hx fun z0 z1=>?_;clear hx;subst z0;subst z1;exact hRR _ _ ⟨rfl,rfl⟩) fun _ _ hx=>hx.elim
inductive pF{g:Gx}(O:PO g)(t:List (Int×V))(m:List (Str×V)):List (Str×V)→Prop
 |at{d}:Fe O t ((aT m "Root").getD .none) (.dct d)→pF O t m d
 |no:aT m "Root" =none→pF O t m []
noncomputable def GJ(x0:Option V):List (Str×Slot):=[("self",.loc x0),("found",.loc none),("isinstance",.glob),("dict",.glob)]
theorem CO{g:Gx}(P:PF g){O:PO g}(M:PM g O){ta ra:Addr}{t:List (Int×V)}{m d:List (Str×V)}(h:pF O t m d):
  aS g 3 (.val (.ref M.ro)) [cG O ta ra] [(ra,.dct m),(ta,.idct t)] cK (fun v own=>v= .dct d∧own=[(ta,.idct t),(ra,.dct m)]):=by
 obtain⟨y,hy,hd⟩:∃y,Fe O t ((aT m "Root").getD .none) y∧(y= .dct d∨y= .none∧d=[]):=by
  cases h with
  |«at» h=>exact⟨_,h,.inl rfl⟩
  |no h=>exact⟨.none,by rw[h];exact .plain .none,.inr ⟨rfl,rfl⟩⟩
 refine jM (ps:=["self"]) (xs' :=[cG O ta ra]) M.mRo.im (fun B s vs h1 h2 hr=>?_) (by decide) rfl (by decide) rfl fun c RR hRR hl hcel hcode hpins=>?_
 ·cases hr with
  |cons a hr=>
   cases hr
   exact⟨[_],BindsTo.of_eq ((bindC M.mRo.im.ps M.mRo.df M.mRo.im.kd).trans rfl),.cons a .nil⟩
 ·refine(?_:WX _ _ ⟨GJ (some _),_⟩ _ _)
  refine aM (aY (a9 0 rfl ?_))
  refine⟨_,dU M.mGe.ok rfl,.fn M.mGe.im.fn,?_⟩
  refine a8 (jK (a9 0 rfl (jF M.aTrailer rfl rfl (a8 (aE (aA (gL cT.all (by exact lv hl) (Fm P M hy) (d8 1 rfl ?_))))))))
  refine aO (iB (dP (aL P.b_isinstance .builtin 2 rfl (a8 (a9 1 rfl (a8 (bG 3 rfl P.b_dict (aA ?_))))))))
  rcases hd with rfl|⟨rfl,rfl⟩
  ·exact iV (kb (oM rfl (a9 1 rfl (hRR _ _ (⟨rfl,rfl⟩)))))
  ·exact qC (kb (mN rfl (WE.frz (vA fun a ha=>⟨a,_,_,_,_,_,ha,.here,.dct,.same,.here,hRR _ _ ⟨rfl,rfl⟩⟩))))
noncomputable def m8:Int→List V→List (Int×V)
 |_,[]=>[]
 |k,x::r=>(k,.tup [.int 0,x])::m8 (k+1) r
theorem A6{q1}:m8 q1 []=[]:=rfl
theorem k9{k x r}:m8 k (x::r)=(k,.tup [.int 0,x])::m8 (k+1) r:=rfl
noncomputable def tab(xs:List V):List (Int×V):=m8 1 xs
theorem tA:∀(k:Int) (xs:List V),(m8 k xs).length=xs.length
 |_,[]=>rfl
 |k,x::r=>by rw[k9,List.length_cons,tA,List.length_cons]
theorem rA:∀(k:Int) (xs:List V) (i:Nat) (x:V),xs[i]? =some x→aT (m8 k xs) (k+i)=some (.tup [.int 0,x])
 |k,y::r,0,x,h=>by cases h;unfold aT;rw[k9,List.find?_cons_of_pos (by simp)];rfl
 |k,y::r,i+1,x,h=>by
  have:=rA (k+1) r i x (by simpa using h)
  unfold aT at this ⊢
  rw[k9,List.find?_cons_of_neg (by simp;(clear this h;lia -abstractProof)),show k+((i+1:Nat):Int)=k+1+(i:Int) by exact d9 [_] [_] (.eq (.a .w (.c (.a .w (.n 1)))) (.a (.a .w (.n 1)) (.c .w))) qq]
  exact this
theorem r9:∀(k:Int) (xs:List V) (j:Int),k+xs.length≤j→(m8 k xs).any (fun kv=>decide (kv.1=j))=false
 |_,[],_,_=>rfl
 |k,x::r,j,h=>by
  rw[List.length_cons] at h
  rw[k9,List.any_cons,r9 (k+1) r j (by exact aB [_] [_,_] (.le (.a .w (.c (.a .w (.n 1)))) .x) 1 (.le (.a (.a .w (.n 1)) (.c .w)) .x) 0 qq h),Bool.or_false]
  exact decide_eq_false (by show k≠j;lia -abstractProof)
theorem r8:∀(k:Int) (xs:List V) (x:V),m8 k xs++[(k+xs.length,.tup [.int 0,x])]=m8 k (xs++[x])
 |k,[],x=>by rw[A6,List.nil_append,List.nil_append,k9,A6];simp
 |k,y::r,x=>by
  rw[k9,List.cons_append,List.cons_append,k9,←r8 (k+1) r x,List.length_cons,show k+((r.length+1:Nat):Int)=k+1+(r.length:Int) by exact d9 [_] [_] (.eq (.a .w (.c (.a .w (.n 1)))) (.a (.a .w (.n 1)) (.c .w))) qq]
theorem ET{xs:List V}{i:Nat}{x:V}(h:xs[i]? =some x):aT (tab xs) ((i:Int)+1)=some (.tup [.int 0,x]):=by
 have:=rA 1 xs i x h
 rwa [Int.add_comm] at this
theorem ES(xs:List V):(aT (tab xs) ((xs.length:Int)+1)).isSome=false:=by
 unfold aT tab
 rw[Option.isSome_map,←Bool.not_eq_true,List.find?_isSome]
 intro z0
 refine aH z0 fun p hp e=>?_
 clear z0
 have:=r9 1 xs ((xs.length:Int)+1) (by exact aZ [_] [] (.le (.a (.n 1) (.c .w)) (.a (.c .w) (.n 1))) 0 qq)
 rw[List.any_eq_false] at this
 exact this p hp e
theorem Ds(xs:List V)(x:V):d6 (tab xs) ((xs.length:Int)+1) (.tup [.int 0,x])=tab (xs++[x]):=by
 unfold d6 tab
 rw[r9 1 xs _ (by exact aZ [_] [] (.le (.a (.n 1) (.c .w)) (.a (.c .w) (.n 1))) 0 qq)]
 rw[←r8,Int.add_comm];rfl
theorem BI{xs:List V}{k:Nat}(h0:1≤k)(h1:k≤xs.length):(aT (tab xs) (k:Int)).isSome=true:=by
 have:=ET (xs:=xs) (i:=k-1) (List.getElem?_eq_getElem (by exact aI [_,_,_] [] (.Le .y .x) 1 (.Eq (.a .w (.n 1)) .y) 1 (.Lt .w .x) 0 qq h1 (Nat.sub_add_cancel (h0))))
 rw[show((k-1:Nat):Int)+1=(k:Int) by lia -abstractProof] at this
 rw[this];rfl
noncomputable def Dc(x0 x1 x2:Option V):List (Str×Slot):=[("self",.loc x0),("value",.loc x1),("number",.loc x2),("Reference",.glob)]
theorem Av{g:Gx}(P:PF g){O:PO g}(M:PM g O){ta ra:Addr}{xs:List V}{x:V}(hz:xs.length≤1000):
  aS g 3 (.val (.ref M.ad)) [cG O ta ra,x] [(ta,.idct (tab xs))] cK (fun v own=>v=lZ O ((xs.length:Int)+1) 0∧own=[(ta,.idct (tab (xs++[x])))]):=by
 refine jM (ps:=["self", "value"]) (xs' :=[cG O ta ra,x]) M.mAd.im (fun B s vs h1 h2 hr=>?_) (by decide) rfl (by decide) rfl fun c RR hRR hl hcel hcode hpins=>?_
 ·refine cJ.e hr.two fun u v z0 a b=>?_
  subst z0
  exact⟨[_,_],BindsTo.of_eq ((bindC M.mAd.im.ps M.mAd.df M.mAd.im.kd).trans rfl),.cons a (.cons b .nil)⟩
 ·refine(?_:WX _ _ ⟨Dc (some _) (some _) none,_⟩ _ _)
  refine aM (aC (d8 2 rfl ?_))
  refine mS ?_ ?_ ?_ ?_
  ·exact fun n σ=>∃k:Nat,n=xs.length+1-k∧1≤k∧k≤xs.length+1∧σ=⟨Dc (some (cG O ta ra)) (some x) (some (.int k)),[(ta,.idct (tab xs))]⟩
  ·exact xs.length
  ·exact⟨1,rfl,Nat.le_refl 1,by exact aZ [_] [] (.Le (.n 1) (.a .w (.n 1))) 0 qq,rfl⟩
  intro JJ1 hJJ1 n σ₁ z0
  refine Bi z0 fun k z3 h1 h2 z4=>?_
  clear z0
  subst z3
  subst z4
  refine aK (a9 2 rfl (jK (a9 0 rfl (jF M.aTable rfl rfl (AR .here (kb (bI ?_)))))))
  by_cases hk:k≤xs.length
  ·refine cU (BI h1 hk) (aM (aD (a9 2 rfl (aC (aJ (d8 2 rfl (aF (hJJ1 _ _ ?_))))))))
   exact⟨xs.length+1-(k+1),by exact aI [_,_,_,_] [] (.Eq (.a .w (.a .y (.n 1))) (.a .z (.n 1))) 1 (.Eq (.a .x .y) (.a .z (.n 1))) (.negSucc 0) (.Lt .w .x) 0 qq (Nat.sub_add_cancel (aB [_,_] [] (.Le .w .x) 1 (.Le (.a .w (.n 1)) (.a .x (.n 1))) 0 qq hk)) (Nat.sub_add_cancel (h2)),k+1,rfl,by exact aZ [_] [] (.Le (.n 1) (.a .w (.n 1))) 0 qq,by exact aB [_,_] [] (.Le .w .x) 1 (.Le (.a .w (.n 1)) (.a .x (.n 1))) 0 qq hk,rfl⟩
  ·obtain rfl:k=xs.length+1:=by exact Nat.le_antisymm (h2) (aB [_,_] [] (.Nle .x .w) 1 (.Le (.a .w (.n 1)) .x) 0 qq hk)
   have e:((xs.length+1:Nat):Int)=(xs.length:Int)+1:=rfl
   refine bK (ES xs) (aF ?_)
   refine aU (eH ?_)
   refine bS (a8 (aC (a8 (a9 1 rfl (aA ?_)))))
   unfold Ep
   refine dA rfl (jK (a9 0 rfl (jF M.aTable rfl rfl (a9 2 rfl ?_))))
   refine⟨_,rfl,?_⟩
   refine .inr (.inr ⟨_,_,_,rfl,by unfold tab;rw[tA];exact Nat.le_trans hz (by decide),.here,?_⟩)
   rw[e,Ds]
   refine aO (nP O.cR.gl O.cR.keep 3 rfl (a8 (a9 2 rfl (a8 (aC (aA ?_))))))
   refine⟨2,_,by exact lv hl,Gc O,fun x own' _ hx=>?_⟩
   refine aG hx fun z0 z1=>?_
   clear hx
   subst z0
   subst z1
   refine hRR _ _ ?_;exact⟨rfl,rfl⟩
noncomputable def GI(x0 x1:Option V):List (Str×Slot):=[("word",.loc x0),("value",.loc x1),("isinstance",.glob),("String",.glob),("int",.glob),("bool",.glob),("TreeFault",.glob)]
theorem CP{g:Gx}(P:PF g)(O:PO g){k:Int}:Pure g 1 (P.fa 22) [.str "Nums",.int k] (.int k):=by
 refine aN (ps:=["word", "value"]) (P.i 22 rfl) (P.j 22 rfl) (fun _ _ _=>rfl) rfl fun c RR hRR hl hcel hcode hpins=>?_
 ·refine(?_:WX _ _ ⟨GI (some _) (some _),_⟩ _ _)
  refine bU (cZ (eG (aK (a9 0 rfl (aE (bX (kb (bI ?_))))))))
  refine bK (by decide) (gK rfl (aF (bU (cZ (eG (aK (a9 0 rfl (aE ?_))))))))
  refine bX (kb (bI (cU (by decide) (eG (dP (aL P.b_isinstance .builtin 2 rfl (a8 (a9 1 rfl ?_))))))))
  refine a8 (bG 4 rfl P.b_int (aA (jJ (kb (rU rfl (eG (fD (dP ?_))))))))
  refine aL P.b_isinstance .builtin 2 rfl (a8 (a9 1 rfl (a8 (bG 5 rfl P.b_bool (aA (iU (kb (rU rfl ?_))))))))
  exact dQ (hH rfl (aO (a9 1 rfl (hRR _ _ (⟨rfl,rfl⟩)))))
noncomputable def FD(x0 x1:Option V):List (Str×Slot):=[("shelf",.loc x0),("value",.loc x1),("node",.loc none),("isinstance",.glob),("dict",.glob),("TreeFault",.glob)]
theorem Bp{g:Gx}(P:PF g){O:PO g}(M:PM g O){ta ra:Addr}{t:List (Int×V)}{x:V}{d:List (Str×V)}(h:Fe O t x (.dct d)):aS g 2 (.val (.ref (P.fa 23))) [cG O ta ra,x] [(ta,.idct t)] cK (fun v own=>v= .dct d∧own=[(ta,.idct t)]):=by
 refine aN (ps:=["shelf", "value"]) (P.i 23 rfl) (P.j 23 rfl) (fun _ _ _=>rfl) rfl fun c RR hRR hl hcel hcode hpins=>?_
 ·refine(?_:WX _ _ ⟨FD (some _) (some _),_⟩ _ _)
  refine aM (aY (a9 0 rfl ?_))
  refine⟨_,dU M.mFe.ok rfl,.fn M.mFe.im.fn,?_⟩
  refine a8 (a9 1 rfl (aA (gL cT.all (by exact lv hl) (lX P M h) (d8 2 rfl (bU (fD (dP (aL P.b_isinstance .builtin 3 rfl ?_))))))))
  refine a8 (a9 2 rfl (a8 (bG 4 rfl P.b_dict (aA (iV (kb (gK rfl (aF ?_))))))))
  exact aO (a9 2 rfl (hRR _ _ (⟨rfl,rfl⟩)))
noncomputable def FC(x0 x1 x2:Option V):List (Str×Slot):=[("shelf",.loc x0),("node",.loc x1),("key",.loc x2),("row",.loc none),("isinstance",.glob),("list",.glob),("TreeFault",.glob)]
theorem xT{g:Gx}(P:PF g){O:PO g}(M:PM g O){ta ra:Addr}{t:List (Int×V)}{m:List (Str×V)}{k:Str}{xs:List V}(h:aT m k=some (.lst xs)):aS g 3 (.val (.ref (P.fa 24))) [cG O ta ra,.dct m,.str k] [(ta,.idct t)] cK (fun v own=>v= .lst xs∧own=[(ta,.idct t)]):=by
 refine aN (ps:=["shelf", "node", "key"]) (P.i 24 rfl) (P.j 24 rfl) (fun _ _ _ _=>rfl) rfl fun c RR hRR hl hcel hcode hpins=>?_
 ·refine(?_:WX _ _ ⟨FC (some _) (some _) (some _),_⟩ _ _)
  refine aM (aY (a9 0 rfl ?_))
  refine⟨_,dU M.mGe.ok rfl,.fn M.mGe.im.fn,?_⟩
  refine a8 (a9 1 rfl (a8 (a9 2 rfl (aA ?_))))
  refine gL cT.all (by exact lv hl) (u7 P M (y:= .lst xs) (by rw[h];exact .plain .lst)) ?_
  refine d8 3 rfl (bU (fD (dP (aL P.b_isinstance .builtin 4 rfl (a8 (a9 3 rfl (a8 (bG 5 rfl P.b_list ?_))))))))
  exact aA (rX (kb (gK rfl (aF (aO (a9 3 rfl (hRR _ _ (⟨rfl,rfl⟩))))))))
structure Rw where
 raw:V
 key:Int
 val:V
noncomputable def kY(l:List Rw):List V:=l.flatMap fun p=>[p.raw,p.val]
noncomputable def fP(l:List Rw):List (Int×V):=l.map fun p=>(p.key,p.val)
theorem tE:∀l:List Rw,(kY l).length=2*l.length
 | []=>rfl
 |p::l=>by have:=tE l;unfold kY at this ⊢;rw[List.flatMap_cons,List.length_append,this];show 2+2*l.length=2*(l.length+1);exact d9 [_] [] (.Eq (.a (.n 2) (.m 2 .w)) (.m 2 (.a .w (.n 1)))) qq
theorem wL:∀(l:List Rw) (i:Nat) (p:Rw),l[i]? =some p→(kY l)[2*i]? =some p.raw∧(kY l)[2*i+1]? =some p.val
 |q::l,0,p,h=>by cases h;exact⟨rfl,rfl⟩
 |q::l,i+1,p,h=>by
  have:=wL l i p (by simpa using h)
  unfold kY at this ⊢
  rw[List.flatMap_cons]
  show(_::_::_)[_]? =_∧(_::_::_)[_]? =_
  rw[show 2*(i+1)=2*i+1+1 by exact d9 [_] [] (.Eq (.m 2 (.a .w (.n 1))) (.a (.a (.m 2 .w) (.n 1)) (.n 1))) qq]
  exact this
noncomputable def FA(x0 x1 x2:Option V):List (Str×Slot):=[("shelf",.cel x0),("node",.loc x1),("word",.cel x2),("row",.cel none),("row_of",.glob),("len",.glob),("TreeFault",.glob),("range",.glob)]
theorem vI{g:Gx}(P:PF g){O:PO g}(M:PM g O){ta ra:Addr}{t:List (Int×V)}{m:List (Str×V)}{l:List Rw}(hz:l.length≤1000)(h:aT m "Nums" =some (.lst (kY l)))(hf:∀p∈l,Fe O t p.raw (.int p.key)):
  aS g 4 (.val (.ref (P.fa 25))) [cG O ta ra,.dct m,.str "Nums"] [(ta,.idct t)] cK (fun v own=>v= .lst (bY (fP l))∧own=[(ta,.idct t)]):=by
 have hlen:=tE l
 refine aN (ps:=["shelf", "node", "word"]) (P.i 25 rfl) (P.j 25 rfl) (fun _ _ _ _=>rfl) rfl fun c RR hRR hl hcel hcode hpins=>?_
 ·refine(?_:WX _ _ ⟨FA (some _) (some _) (some _),_⟩ _ _)
  refine bU ?_
  refine aK ?_
  refine a9 2 rfl ?_
  refine a9 1 rfl ?_
  refine wT ?_
  rw[h]
  refine kb ?_
  refine gK rfl ?_
  refine aF ?_
  refine aM ?_
  refine bM (P.i 24 rfl) 4 rfl ?_
  refine a8 ?_
  refine a9 0 rfl ?_
  refine a8 ?_
  refine a9 1 rfl ?_
  refine a8 ?_
  refine a9 2 rfl ?_
  refine aA ?_
  refine⟨3,_,[],_,_,by exact lv hl,cT.all,xT P M h,fun x own' _ hx=>?_,fun _ _ hx=>hx.elim⟩
  refine aG hx fun z0 z1=>?_
  clear hx
  subst z0
  subst z1
  refine d8 3 rfl ?_
  refine bU ?_
  refine aK ?_
  refine aD ?_
  refine aL P.b_len .builtin 5 rfl ?_
  refine a8 ?_
  refine a9 3 rfl ?_
  refine aA ?_
  refine bP (by rw[hlen];exact Nat.le_trans (Nat.mul_le_mul_left 2 hz) (by decide)) ?_
  refine aC ?_
  refine bW (by decide) ?_
  refine aC ?_
  refine l4 ?_
  refine kb ?_
  refine bI ?_
  refine bK ?_ ?_
  ·rw[hlen,Int.fmod_eq_emod_of_nonneg _ (by decide)]
   exact bne_eq_false_iff_eq.mpr (by(clear hcode hf hpins hcel hl hRR hlen h hz;lia -abstractProof))
  refine aF ?_
  refine aO ?_
  refine dZ (by exact .loc (.loc (.glob (.fre (.skip (.skip (.skip (.cel)))) (.fre (.cel) (.fre (.skip (.skip (.cel))) (.nil))))))) ?_
  refine bH ?_
  refine aL P.b_range .type 7 rfl ?_
  refine a8 ?_
  refine aC ?_
  refine a8 ?_
  refine aL P.b_len .builtin 5 rfl ?_
  refine a8 ?_
  refine a9 3 rfl ?_
  refine aA ?_
  refine bP (by rw[hlen];exact Nat.le_trans (Nat.mul_le_mul_left 2 hz) (by decide)) ?_
  refine a8 ?_
  refine aC ?_
  refine aA ?_
  refine x9 (by decide) (PyProof.noPylong_small (by decide)) ?_
  have hr:Builtin.Range.rangeSize 0 ((kY l).length:Int) 2=l.length:=by
   unfold Builtin.Range.rangeSize
   rw[if_pos (by decide),hlen]
   split<;>(first|(clear hcode hf hpins hcel hl hRR hlen h hz;lia -abstractProof)|exact Int.le_antisymm (aZ [_] [] (.le (.n 0) (.c .w)) 0 (.refl true)) (aB [_] [] (.nlt (.n 0) (.c (.m 2 .w))) 1 (.le (.c .w) (.n 0)) 1 (.refl true) ‹_›))
  refine⟨_,.rng (l0 (by decide) (by decide) (by exact aZ [_] [] (.le (.n 0) (.c .w)) 0 (.refl true)) (by exact aI [_,_] [] (.Le .x (.n 1000)) 2 (.Eq .w (.m 2 .x)) 1 (.le (.c .w) (.n 100000)) 0 (.refl true) hz hlen) (by decide) (by decide) (by exact aB [_] [] (.Le .w (.n 1000)) 1 (.Le .w (.n 100000)) 0 (.refl true) hz) hr) hr,by rw[List.length_map,List.length_range];exact Nat.le_trans hz (by decide),rfl,fun r ys own=>cW (fun a b=>l=a++b) (fun a b=>r=(List.range' a.length b.length).map (fun(i:Nat)=>V.int (0+(i:Int)*2))) (fun a b=>ys=bY (fP a)) (fun a b=>own=[(ta,.idct t)]),⟨[],l,rfl,by rw[List.length_nil,←List.range_eq_range'],rfl,rfl⟩,?_,?_⟩
  ·intro JJ1 hJJ1 x r ys own z0
   refine cW.e z0 fun a b e4 e5 e6 z1=>?_
   clear z0
   subst z1
   intro e ps B
   cases b with
   |nil=>cases e5
   |cons n b=>
    cases e5
    have hat:l[a.length]? =some n:=by rw[e4,List.getElem?_append_right (Nat.le_refl _),Nat.sub_self];rfl
    have hal:a.length<l.length:=by rw[e4,List.length_append,List.length_cons];exact aZ [_,_] [] (.Lt .w (.a .w (.a .x (.n 1)))) 0 (.refl true)
    refine aG (wL _ _ _ hat) fun o1 o2=>?_
    refine bE 1 rfl (f6 ?_)
    refine fV rfl ?_
    refine bS ?_
    refine a8 ?_
    refine aX (P.i 22 rfl) 2 rfl ?_
    refine a8 ?_
    refine a9 5 rfl ?_
    refine a8 ?_
    refine aY ?_
    refine a9 4 rfl ?_
    refine⟨_,dU (c:=(c.of g).at e ps B) M.mFe.ok rfl,.fn (g:=g) M.mFe.im.fn,?_⟩
    refine a8 ?_
    refine aV ?_
    refine a9 3 rfl ?_
    refine a9 1 rfl ?_
    refine o_item_lst (j:=2*a.length) (by rw[show(0:Int)+((a.length:Nat):Int)*2=((2*a.length:Nat):Int) by exact d9 [_] [] (.eq (.a (.n 0) (.m (.c .w) (.n 2))) (.c (.m 2 .w))) (.refl true),bA (by exact aZ [_] [] (.le (.n 0) (.c (.m 2 .w))) 0 (.refl true)) (by exact aI [_,_,_] [] (.Eq .x (.m 2 .y)) (.negSucc 0) (.Lt .w .y) 2 (.lt (.c (.m 2 .w)) (.c .x)) 0 (.refl true) hlen hal)];rfl) o1 (by exact aZ [_] [] (.le (.g (.n 9223372036854775808)) (.a (.n 0) (.m (.c .w) (.n 2)))) 0 (.refl true)) (by exact aI [_,_] [] (.Le .x (.n 1000)) 2 (.Lt .w .x) 2 (.lt (.a (.n 0) (.m (.c .w) (.n 2))) (.n 9223372036854775808)) 0 (.refl true) hz hal) ?_
    refine aA ?_
    refine gL cT.all (show 1≤c.lvl by exact lv hl) (lX (g:=g) P M (hf n (by rw[e4];simp))) ?_
    refine aA ?_
    refine⟨1,_,show 1≤c.lvl by exact lv hl,CP (g:=g) P O,?_⟩
    refine a8 ?_
    refine aV ?_
    refine a9 3 rfl ?_
    refine aD ?_
    refine a9 1 rfl ?_
    refine aC ?_
    refine aJ ?_
    refine o_item_lst (j:=2*a.length+1) (by rw[show(0:Int)+((a.length:Nat):Int)*2+1=((2*a.length+1:Nat):Int) by exact d9 [_] [] (.eq (.a (.a (.n 0) (.m (.c .w) (.n 2))) (.n 1)) (.c (.a (.m 2 .w) (.n 1)))) (.refl true),bA (by exact aZ [_] [] (.le (.n 0) (.c (.a (.m 2 .w) (.n 1)))) 0 (.refl true)) (by exact aI [_,_,_] [] (.Eq .x (.m 2 .y)) (.negSucc 0) (.Lt .w .y) 2 (.lt (.c (.a (.m 2 .w) (.n 1))) (.c .x)) 0 (.refl true) hlen hal)];rfl) o2 (by exact aZ [_] [] (.le (.g (.n 9223372036854775808)) (.a (.a (.n 0) (.m (.c .w) (.n 2))) (.n 1))) 0 (.refl true)) (by exact aI [_,_] [] (.Le .x (.n 1000)) 2 (.Lt .w .x) 2 (.lt (.a (.a (.n 0) (.m (.c .w) (.n 2))) (.n 1)) (.n 9223372036854775808)) 0 (.refl true) hz hal) ?_
    refine aA ?_
    refine dA rfl ?_
    refine hJJ1 _ _ _ ?_
    exact⟨a++[n],b,by rw[List.append_assoc];exact e4,by rw[List.length_append];rfl,by rw[e6];unfold fP bY;rw[List.map_append,List.map_append];rfl,rfl⟩
  intro ys own z0
  refine cW.e z0 fun a b e4 e5 z1 z2=>?_
  clear z0
  subst z1
  subst z2
  cases b with
  |cons n b=>cases e5
  |nil=>
   rw[List.append_nil] at e4
   subst e4
   refine hRR _ _ ?_;exact⟨rfl,rfl⟩
theorem Conc.permOwn{c:Cx}{σ:St}{B:Fz}{s:Shared}{own' :List (Addr×OV)}(x:Conc c σ B s)(p:σ.own.Perm own'):Conc c ⟨σ.env,own'⟩ B s where
 base:=x.base.perm (List.Perm.cons _ (List.Perm.append_left _ (p.map _)))
 names:=x.names
 vars:=x.vars
 own:=fun q hq=>x.own q (p.mem_iff.mpr hq)
theorem WX.perm{c:Cx}{σ:St}{X:Value→St→Prop}{Q:Fl→St→Prop}{l:List Stmt}{own' :List (Addr×OV)}(p:σ.own.Perm own')(h:WX c l ⟨σ.env,own'⟩ X Q):WX c l σ X Q:=
 fun B s Φ Ψ hc hΦ hΨ=>h B s Φ Ψ (hc.permOwn p) hΦ hΨ
theorem E4{α:Type}{a b c:α}: [a,b,c].Perm [c,a,b]:=(List.perm_middle (a:=c) (l₁:=[a,b]) (l₂:=[]))
noncomputable def gA:V:= .tup [.int (-1),.int (-1)]
noncomputable def GH(x0 x1:Option V):List (Str×Slot):=[("way",.loc x0),("value",.loc x1),("place",.loc none),("isinstance",.glob),("Reference",.glob),("TreeFault",.glob),("len",.glob),("MOST_DEEP",.glob)]
theorem vJ{g:Gx}(P:PF g){O:PO g}(M:PM g O){ws:List V}{d:List (Str×V)}(hz:ws.length≤30):Pure g 1 (P.fa 26) [.tup ws,.dct d] (.tup (ws++[gA])):=by
 refine aN (ps:=["way", "value"]) (P.i 26 rfl) (P.j 26 rfl) (fun _ _ _=>rfl) rfl fun c RR hRR hl hcel hcode hpins=>?_
 ·have gR:=O.cR.gl
  refine(?_:WX _ _ ⟨GH (some _) (some _),_⟩ _ _)
  refine aM (bS (a8 (kJ (aC (bO (a8 (kJ (aC ?_))))))))
  refine bO (aA (dA rfl (d8 2 rfl (bU (dP (aL P.b_isinstance .builtin 3 rfl (a8 (a9 1 rfl ?_))))))))
  refine a8 (bG 4 rfl (by assumption) (aA (kD M .dct (kb (gK rfl (aF (bU (aK ?_))))))))
  refine aL P.b_len .builtin 6 rfl (a8 (a9 0 rfl (aA (B5 (Nat.le_trans hz (by decide)) (bG 7 rfl P.g_MOST_DEEP (qA (kb (bI ?_))))))))
  refine bK (decide_eq_false (by exact aB [_] [] (.Le .w (.n 30)) 1 (.nlt (.n 40) (.c .w)) 0 qq hz)) (aF (aO (aD (a9 0 rfl (bS (a8 (a9 2 rfl (aA ?_))))))))
  exact dA rfl (AS (hRR _ _ ⟨rfl,rfl⟩) (Nat.le_trans (Nat.add_le_add_right hz 1) (by decide)))
inductive zX{g:Gx}(O:PO g)(t:List (Int×V)):List (Str×V)→List (Int×V)→Nat→Prop
 |leaf {d:List (Str×V)} {l:List Rw}:aT d "Kids" =none→aT d "Nums" =some (.lst (kY l))→(∀p∈l,Fe O t p.raw (.int p.key))→l.length≤1000→zX O t d (fP l) 1
 |kids {d d1 d2:List (Str×V)} {l1 l2:List (Int×V)}:aT d "Kids" =some (.lst [.dct d1,.dct d2])→zX O t d1 l1 1→zX O t d2 l2 1→zX O t d (l1++l2) 3
structure pA where
 d:List (Str×V)
 l:List (Int×V)
 n:Nat
 w:List V
noncomputable def pA.v(q:pA):V:= .tup [.dct q.d,.tup q.w]
theorem zX.pos{g:Gx}{O:PO g}{t:List (Int×V)}{d:List (Str×V)}{l:List (Int×V)}{n:Nat}(h:zX O t d l n):1≤n:=by cases h<;>decide
theorem w9{g:Gx}{O:PO g}{t:List (Int×V)}:∀(l:List pA),(∀q∈l,zX O t q.d q.l q.n)→l.length≤(l.map (·.n)).sum
 | [],_=>Nat.le_refl _
 |q::l,h=>by
  have h1:=w9 l fun x hx=>h x (List.mem_cons_of_mem _ hx)
  have h2:=(h q (List.mem_cons_self ..)).pos
  rw[List.length_cons,List.map_cons,List.sum_cons];exact aI [_,_,_] [] (.Le .w .y) 1 (.Le (.n 1) .x) 1 (.Le (.a .w (.n 1)) (.a .x .y)) 0 qq h1 h2
theorem B4(a b:List (Int×V)):bY (a++b)=bY a++bY b:=List.map_append ..
noncomputable def Db(x0 x1 x2 x3 x4 x5 x6 x7:Option V):List (Str×Slot):=[("shelf",.loc x0),("root",.loc x1),("word",.loc x2),("found",.loc x3),("line",.loc x4),("value",.loc x5),("way",.cel x6),("node",.loc x7),("len",.glob),("longer_way",.glob),("node_of",.glob),("reversed",.glob),("row_of",.glob),("node_pairs",.glob)]
theorem vD{g:Gx}(P:PF g){O:PO g}(M:PM g O){ta ra:Addr}{t:List (Int×V)}{d:List (Str×V)}{l:List (Int×V)}{n:Nat}(h:zX O t d l n)(hn:n≤3)(hz:l.length≤1000):
  aS g 5 (.val (.ref (P.fa 27))) [cG O ta ra,.dct d,.str "Nums"] [(ta,.idct t)] cK (fun v own=>v= .lst (bY l)∧own=[(ta,.idct t)]):=by
 refine aS.sub (X:=cK) (Q:=fun v own=>v= .lst (bY l)∧∃x,own=[(ta,.idct t),x]) ?_ (fun v o ⟨h1,x,h2⟩=>⟨[(ta,.idct t)],by rw[h2];exact List.Sublist.cons_cons _ (List.nil_sublist _),h1,rfl⟩) (fun _ _ h=>h.elim)
 refine aN (ps:=["shelf", "root", "word"]) (P.i 27 rfl) (P.j 27 rfl) (fun _ _ _ _=>rfl) rfl fun c RR hRR hl hcel hcode hpins=>?_
 ·refine(?_:WX _ _ ⟨Db (some _) (some _) (some _) none none none none none,_⟩ _ _)
  refine aM ?_
  refine iA (aA ⟨by decide,fun fo hfo=>?_⟩)
  refine d8 3 rfl ?_;refine aM ?_
  refine iA ?_
  refine a8 ?_
  refine bS ?_
  refine a8 ?_
  refine a9 1 rfl ?_
  refine a8 ?_
  refine bS ?_
  refine aA ?_
  refine dA rfl ?_
  refine aA ?_
  refine dA rfl ?_
  refine aA ?_
  refine Cb rfl ?_
  refine fun ln hln=>?_
  refine d8 4 rfl ?_
  refine WX.perm (own' :=[(ta,.idct t),(ln,.lst [.tup [.dct d,.tup []]]),(fo,.lst [])]) ?_ ?_
  ·exact E4
  refine mS ?_ ?_ ?_ ?_
  ·exact fun k σ=>Bx (fun(todo:List pA) f w1 w2 w3=>(∀q∈todo,zX O t q.d q.l q.n∧q.w.length+q.n≤10)) (fun(todo:List pA) f w1 w2 w3=>k=(todo.map (·.n)).sum) (fun(todo:List pA) f w1 w2 w3=>(todo.map (·.n)).sum≤3) (fun(todo:List pA) f w1 w2 w3=>f++todo.flatMap (·.l)=l) (fun(todo:List pA) f w1 w2 w3=>σ=⟨Db (some (cG O ta ra)) (some (.dct d)) (some (.str "Nums")) (some (.val (.ref fo))) (some (.val (.ref ln))) w1 w2 w3,[(ta,.idct t),(ln,.lst (todo.reverse.map pA.v)),(fo,.lst (bY f))]⟩)
  ·exact n
  ·exact⟨[⟨d,l,n,[]⟩],[],none,none,none,fun q hq=>by rw[List.mem_singleton.mp hq];exact⟨h,by show 0+n≤10;exact aB [_] [] (.Le .w (.n 3)) 1 (.Le (.a (.n 0) .w) (.n 10)) 0 (.refl true) hn⟩,rfl,hn,by simp,rfl⟩
  intro JJ1 hJJ1 k σ₁ z0
  refine Bx.e z0 fun todo f w1 w2 w3 h1 z1 h2' h3 z2=>?_
  clear z0
  subst z1
  subst z2
  have h2:todo.length≤100:=Nat.le_trans (w9 todo fun q hq=>(h1 q hq).1) (Nat.le_trans h2' (by decide))
  have hll:(todo.reverse.map pA.v).length=todo.length:=by rw[List.length_map,List.length_reverse]
  refine aK ?_
  refine aL P.b_len .builtin 8 rfl ?_
  refine a8 ?_
  refine a9 4 rfl ?_
  refine aA ?_
  refine B6 (.skip .here) (by rw[hll];exact Nat.le_trans h2 (by decide)) ?_
  refine aC ?_
  refine qA ?_
  refine kb ?_
  refine bI ?_
  rw[hll]
  cases todo with
  |nil=>
   refine bK rfl ?_
   refine aF ?_;refine aO ?_
   refine WE.frz ?_
   refine a9 3 rfl ?_
   exact⟨fo,_,_,_,_,_,hfo,.skip (.skip .here),.lst,.same,.here,hRR _ _ ⟨by rw[←h3];simp,_,rfl⟩⟩
  |cons q todo=>
   refine cU (decide_eq_true (by rw[List.length_cons];exact aZ [_] [] (.lt (.n 0) (.c (.a .w (.n 1)))) 0 (.refl true))) ?_
   rcases q with⟨qd,ql,qn,qw⟩
   refine aG (h1 ⟨qd,ql,qn,qw⟩ (List.mem_cons_self ..)) fun q1 q2=>?_
   replace q1:zX O t qd ql qn:=q1
   replace q2:qw.length+qn≤10:=q2
   have h1' :∀x∈todo,zX O t x.d x.l x.n∧x.w.length+x.n≤10:=fun x hx=>h1 x (List.mem_cons_of_mem _ hx)
   rw[List.reverse_cons,List.map_append]
   refine aU (mZ ?_)
   refine aY ?_
   refine a9 4 rfl ?_
   refine eA (EL (.skip (.here))) .builtin ?_
   refine aA ?_
   refine G1 (y:=pA.v ⟨qd,ql,qn,qw⟩) (.skip .here) (by rw[List.length_map,List.length_reverse];rw[List.length_cons] at h2;exact Nat.lt_of_lt_of_le (Nat.lt_of_succ_le h2) (by decide)) ?_
   refine gW (.cons (.cons .nil)) (.cons (aR 5 rfl) (.cons (aR 6 rfl) .nil)) ?_
   refine aM ?_
   refine aX (P.i 26 rfl) 9 rfl ?_
   refine a8 ?_
   refine a9 6 rfl ?_
   refine a8 ?_
   refine a9 5 rfl ?_
   refine aA ?_
   refine⟨1,_,by exact lv hl,vJ P M (by exact aB [_,_] [] (.Le (.a .w .x) (.n 10)) 1 (.Le .w (.n 30)) 0 (.refl true) q2),?_⟩
   refine d8 6 rfl ?_
   refine aM ?_
   refine bM (P.i 23 rfl) 10 rfl ?_
   refine a8 ?_
   refine a9 0 rfl ?_
   refine a8 ?_
   refine a9 5 rfl ?_
   refine aA ?_
   refine eW.det 2 (by exact lv hl) (.take .nil) (Bp P M (.plain .dct)) ?_
   refine d8 7 rfl ?_
   refine bU ?_
   refine aK ?_
   refine aE ?_
   refine a9 7 rfl ?_
   refine wU ?_
   have hf1:(bY f).length≤1000:=by rw[lS];have:=congrArg List.length h3;rw[List.length_append] at this;exact aI [_,_,_] [] (.Le .x (.n 1000)) 1 (.Eq (.a .w .y) .x) 1 (.Le .w (.n 1000)) 0 (.refl true) hz this
   cases q1 with
   | @leaf d0 rows k1 k2 k3 k4=>
    rw[k1]
    refine kb ?_
    refine bI ?_
    refine bK rfl ?_
    refine gZ ?_
    refine aY ?_
    refine a9 3 rfl ?_
    refine eA (lK (.skip (.skip (.here)))) .builtin ?_
    refine a8 ?_
    refine bM (P.i 25 rfl) 13 rfl ?_
    refine a8 ?_
    refine a9 0 rfl ?_
    refine a8 ?_
    refine a9 7 rfl ?_
    refine a8 ?_
    refine a9 2 rfl ?_
    refine aA ?_
    refine eW.det 4 (by exact lv hl) (.take .nil) (vI P M k4 k2 k3) ?_
    have k5:(bY (fP rows)).length≤1000:=by rw[lS];unfold fP;rw[List.length_map];exact k4
    refine aA ?_
    refine nH (.skip (.skip .here)) (Nat.le_trans (Nat.add_le_add hf1 k5) (by decide)) ?_
    refine Aj ?_
    refine aF ?_
    refine aF ?_
    refine hJJ1 _ _ ?_
    refine⟨(todo.map (·.n)).sum,by rw[List.map_cons,List.sum_cons];show _<1+_;exact aZ [_] [] (.Lt .w (.a (.n 1) .w)) 0 (.refl true),todo,f++fP rows,_,_,_,h1',rfl,Nat.le_trans (by rw[List.map_cons,List.sum_cons];exact Nat.le_add_left _ _) h2',?_,by rw[B4];rfl⟩
    rw[List.append_assoc,←h3];rfl
   | @kids d0 d1 d2 l1 l2 k1 k2 k3=>
    rw[k1]
    refine kb ?_
    refine bI ?_
    refine cU rfl ?_
    refine gZ ?_
    refine aY ?_
    refine a9 4 rfl ?_
    refine eA (lK (.skip (.here))) .builtin ?_
    refine a8 ?_
    refine dZ (by exact .loc (.loc (.fre (.skip (.skip (.skip (.skip (.skip (.skip (.cel))))))) (.nil)))) ?_
    refine Fa ?_
    refine aL P.b_reversed .type 11 rfl ?_
    refine a8 ?_
    refine bM (P.i 24 rfl) 12 rfl ?_
    refine a8 ?_
    refine a9 0 rfl ?_
    refine a8 ?_
    refine a9 7 rfl ?_
    refine a8 ?_
    refine aE ?_
    refine aA ?_
    refine eW.det 3 (by exact lv hl) (.take .nil) (xT P M k1) ?_
    refine aA ?_
    refine zB fun I hI=>?_
    have w30:(qw++[gA]).length+1≤10:=by
     rw[List.length_append]
     have h1:qw.length+3≤10:=q2
     show qw.length+1+1≤10;exact aB [_] [] (.Le (.a .w (.n 3)) (.n 10)) 1 (.Le (.a (.a .w (.n 1)) (.n 1)) (.n 10)) 0 (.refl true) h1
    refine⟨I,_,_,rfl,hI,.here,Nat.le_of_ble_eq_true rfl,rfl,fun r ys own=>(r=[.dct d2,.dct d1]∧ys=[]∨r=[.dct d1]∧ys=[.tup [.dct d2,.tup (qw++[gA])]]∨r=[]∧ys=[.tup [.dct d2,.tup (qw++[gA])],.tup [.dct d1,.tup (qw++[gA])]])∧own=[(ta,.idct t),(ln,.lst (todo.reverse.map pA.v)),(fo,.lst (bY f))],⟨.inl ⟨rfl,rfl⟩,rfl⟩,?_,?_⟩
    ·intro JJ2 hJJ2 x r ys own z0
     refine aG z0 fun f5 z1=>?_
     clear z0
     subst z1
     intro e ps B
     rcases f5 with⟨f5,rfl⟩|⟨f5,rfl⟩|⟨f5,_⟩
     ·cases f5
      refine bE 1 rfl (f6 ?_)
      refine fV rfl ?_
      refine bS ?_
      refine a8 ?_
      refine a9 1 rfl ?_
      refine a8 ?_
      refine a9 2 rfl ?_
      refine aA ?_
      refine dA rfl ?_
      refine hJJ2 _ _ _ ?_
      exact⟨.inr (.inl ⟨rfl,rfl⟩),rfl⟩
     ·cases f5
      refine bE 1 rfl (f6 ?_)
      refine fV rfl ?_
      refine bS ?_
      refine a8 ?_
      refine a9 1 rfl ?_
      refine a8 ?_
      refine a9 2 rfl ?_
      refine aA ?_
      refine dA rfl ?_
      refine hJJ2 _ _ _ ?_
      exact⟨.inr (.inr ⟨rfl,rfl⟩),rfl⟩
     ·cases f5
    intro ys own z0
    refine aG z0 fun f5 z1=>?_
    clear z0
    subst z1
    obtain rfl:ys=[.tup [.dct d2,.tup (qw++[gA])],.tup [.dct d1,.tup (qw++[gA])]]:=by
     rcases f5 with⟨f5,_⟩|⟨f5,_⟩|⟨_,f5⟩
     ·cases f5
     ·cases f5
     ·exact f5
    refine aA ?_
    refine nH (.skip .here) (Nat.le_trans (Nat.add_le_add_right (show(todo.reverse.map pA.v).length≤100 by rw[List.length_map,List.length_reverse];rw[List.length_cons] at h2;exact aB [_] [] (.Le (.a .w (.n 1)) (.n 100)) 1 (.Le .w (.n 100)) 0 (.refl true) h2) 2) (by decide)) ?_
    refine Aj ?_
    refine aF ?_
    refine aF ?_
    refine hJJ1 _ _ ?_
    refine⟨1+(1+(todo.map (·.n)).sum),by rw[List.map_cons,List.sum_cons];show _<3+_;exact aZ [_] [] (.Lt (.a (.n 1) (.a (.n 1) .w)) (.a (.n 3) .w)) 0 (.refl true),⟨d1,l1,1,qw++[gA]⟩::⟨d2,l2,1,qw++[gA]⟩::todo,f,some (.dct qd),some (.tup (qw++[gA])),some (.dct qd),fun x hx=>?_,rfl,?_,?_,?_⟩
    ·rcases List.mem_cons.mp hx with rfl|hx
     ·exact⟨k2,w30⟩
     ·rcases List.mem_cons.mp hx with rfl|hx
      ·exact⟨k3,w30⟩
      ·exact h1' x hx
    ·have h2' :3+(todo.map (·.n)).sum≤3:=h2'
     exact show 1+(1+(todo.map (·.n)).sum)≤3 by exact aB [_] [] (.Le (.a (.n 3) .w) (.n 3)) 1 (.Le (.a (.n 1) (.a (.n 1) .w)) (.n 3)) 0 (.refl true) h2'
    ·rw[←h3];simp
    ·rw[List.reverse_cons,List.reverse_cons,List.append_assoc,List.map_append];rfl
inductive GV{g:Gx}(O:PO g):V→Str→Bool→Prop
 |none:GV O .none "" true
 |nm {x}:GV O (jX O x) x (dF.any (·==x))
 |int {n}:GV O (.int n) "" false
inductive Gj{g:Gx}(O:PO g):V→Option Str→Prop
 |none:Gj O .none (some "")
 |st {l:List Nat}:l.length≤1000→(∀n∈l,n<0x110000)→Gj O (sO O (aQ l)) (some (S (iM l)))
 |nm {x}:Gj O (jX O x) Option.none
inductive Gk{g:Gx}(O:PO g):V→Option Int→Prop
 |none:Gk O .none (some 1)
 |int {n}:Gk O (.int n) (some n)
 |bool {b}:Gk O (.bool b) Option.none
 |st {b}:Gk O (sO O b) Option.none
noncomputable def FU(x:V):V:=if x.isNone=true then .int 1 else x
structure Rd{g:Gx}(O:PO g)(t:List (Int×V))(x:V)(w:Str)(ok:Bool)(p:Option Str)(n:Option Int):Prop where
 ex:(GQ (fun d sv pv nv=>Fe O t x (.dct d)) (fun d sv pv nv=>Fe O t ((aT d "S").getD .none) sv) (fun d sv pv nv=>GV O sv w ok) (fun d sv pv nv=>Fe O t ((aT d "P").getD .none) pv) (fun d sv pv nv=>Gj O pv p) (fun d sv pv nv=>Fe O t ((aT d "St").getD .none) nv) (fun d sv pv nv=>Gk O nv n))∨(ok=false∧∃k,Fe O t x (.int k))
theorem aS.imp{g:Gx}{n:Nat}{f:V}{xs:List V}{own:List (Addr×OV)}{X X' :XO}{Q Q' :V→List (Addr×OV)→Prop}(h:aS g n f xs own X Q)(hq:∀v o,Q v o→Q' v o)(hx:∀v o,X v o→X' v o):aS g n f xs own X' Q' :=
 h.sub (fun v o q=>⟨o,List.Sublist.refl _,hq v o q⟩) fun v o q=>⟨o,List.Sublist.refl _,hx v o q⟩
noncomputable def Ez(x0 x1 x2:Option V):List (Str×Slot):=[("shelf",.loc x0),("first",.loc x1),("value",.loc x2),("head",.loc none),("style",.loc none),("prefix",.loc none),("start",.loc none),("word",.loc none),("number",.loc none),("isinstance",.glob),("dict",.glob),("TreeFault",.glob),("Name",.glob),("STYLES",.glob),("String",.glob),("int",.glob),("bool",.glob),("prefix_text",.glob)]
theorem oW{g:Gx}(P:PF g)(E:PE g){O:PO g}(M:PM g O){ta ra:Addr}{t:List (Int×V)}{x:V}{first k:Int}(hx:Fe O t x (.int k)):
  aS g 4 (.val (.ref (P.fa 59))) [cG O ta ra,.int first,x] [(ta,.idct t)] (fun cls _=>cls= .ref E.tf) (fun v own=>False):=by
 refine aN (ps:=["shelf", "first", "value"]) (P.i 59 rfl) (P.j 59 rfl) (fun _ _ _ _=>rfl) rfl fun c RR hRR hl hcel hcode hpins=>?_
 ·refine(?_:WX _ _ ⟨Ez (some _) (some _) (some _),_⟩ _ _)
  refine aM (aY (a9 0 rfl ?_))
  refine⟨_,dU M.mFe.ok rfl,.fn M.mFe.im.fn,?_⟩
  refine a8 (a9 2 rfl (aA (gL cT.all (by exact lv hl) (lX P M hx) (d8 3 rfl (bU (fD (dP (aL P.b_isinstance .builtin 9 rfl ?_))))))))
  exact a8 (a9 3 rfl (a8 (bG 10 rfl P.b_dict (aA (rY (kb (hH rfl (aU (n6 E 11 rfl (by exact lv hl) fun d l=>rfl)))))))))
theorem vH{g:Gx}(P:PF g)(E:PE g){O:PO g}(M:PM g O){ta ra:Addr}{t:List (Int×V)}{x:V}{first:Int}{w:Str}{ok:Bool}{p:Option Str}{n:Option Int}(h:Rd O t x w ok p n):
  aS g 4 (.val (.ref (P.fa 59))) [cG O ta ra,.int first,x] [(ta,.idct t)] (fun cls _=>cls= .ref E.tf∧(ok=false∨p=none∨n=none)) (fun v own=>(ok=true∧cJ (fun p' n' =>p=some p') (fun p' n' =>n=some n') (fun p' n' =>v= .tup [.int first,.str w,.str p',.int n']))∧own=[(ta,.idct t)]):=by
 rcases h.ex with⟨d,sv,pv,nv,hx,hS,rS,hP,rP,hN,rN⟩|⟨rfl,k,hx⟩
 case inr=>exact(oW P E M hx).imp (fun _ _ q=>q.elim) fun _ _ q=>⟨q,.inl rfl⟩
 refine aN (ps:=["shelf", "first", "value"]) (P.i 59 rfl) (P.j 59 rfl) (fun _ _ _ _=>rfl) rfl fun c RR hRR hl hcel hcode hpins=>?_
 ·have gN:=O.cN.gl
  have gS:=O.cS.gl
  refine(?_:WX _ _ ⟨Ez (some _) (some _) (some _),_⟩ _ _)
  refine aM (aY (a9 0 rfl ?_))
  refine⟨_,dU M.mFe.ok rfl,.fn M.mFe.im.fn,?_⟩
  refine a8 (a9 2 rfl (aA (gL cT.all (by exact lv hl) (lX P M hx) (d8 3 rfl (bU (fD (dP (aL P.b_isinstance .builtin 9 rfl ?_))))))))
  refine a8 (a9 3 rfl (a8 (bG 10 rfl P.b_dict (aA (iV (kb (gK rfl (aF ?_))))))))
  refine aU (iD (.cons (.cons (.cons .nil))) ?_)
  refine bS (a8 (aY (a9 0 rfl ?_)))
  refine⟨_,dU M.mGe.ok rfl,.fn M.mGe.im.fn,?_⟩
  refine a8 (a9 3 rfl (a8 (aE (aA (gL cT.all (by exact lv hl) (u7 P M hS) (a8 (aY (a9 0 rfl ?_))))))))
  refine⟨_,dU M.mGe.ok rfl,.fn M.mGe.im.fn,?_⟩
  refine a8 (a9 3 rfl (a8 (aE (aA (gL cT.all (by exact lv hl) (u7 P M hP) (a8 (aY (a9 0 rfl ?_))))))))
  refine⟨_,dU M.mGe.ok rfl,.fn M.mGe.im.fn,?_⟩
  refine a8 (a9 3 rfl (a8 (aE (aA (gL cT.all (by exact lv hl) (u7 P M hN) (aA (dA rfl ?_)))))))
  refine⟨_,_,rfl,.cons (aR 4 rfl) (.cons (aR 5 rfl) (.cons (aR 6 rfl) .nil)),.cons (aR 6 rfl) (.cons (aR 5 rfl) (.cons (aR 4 rfl) .nil)),?_,rfl⟩
  refine aM ?_
  refine WE.join (.str w) ?_ ?_
  ·refine iB (dP (aL P.b_isinstance .builtin 9 rfl (a8 (a9 4 rfl (a8 (bG 12 rfl (by assumption) (aA ?_)))))))
   cases rS with
   |none=>
    exact rV M.nNm (kb (mN rfl (aE (⟨rfl,rfl⟩))))
   |nm=>
    exact lU M.iNN (kb (oM rfl (jK (a9 4 rfl (jF M.aText rfl rfl ⟨rfl,rfl⟩)))))
   |int=>
    exact oN M.iN (kb (mN rfl (aE (⟨rfl,rfl⟩))))
  refine d8 7 rfl ?_;refine bU ?_
  refine WC.join (!ok) ?_ ?_
  ·refine cZ (eG (aK (a9 4 rfl (cE (nB (kb (bI ?_)))))))
   cases rS with
   |none=>
    exact bK rfl (⟨rfl,rfl⟩)
   | @nm x=>
    refine cU rfl (eG (cZ (fO (fD (dP (aL P.b_isinstance .builtin 9 rfl (a8 (a9 4 rfl ?_))))))))
    refine a8 (bG 12 rfl (by assumption) (aA (lU M.iNN (kb (nF rfl (fO (aK (a9 7 rfl ?_))))))))
    refine bG 13 rfl P.g_STYLES (pP (kb ?_))
    refine bL (fun _=>?_) (fun _=>?_)
    ·rename_i e1;refine rU rfl ?_;refine dQ ?_;exact⟨e1.symm,rfl⟩
    ·rename_i e1;refine eF ?_;refine zA rfl ?_;exact⟨(Bool.eq_false_iff.mpr e1).symm,rfl⟩
   |int=>
    refine cU rfl (eG (cZ (fO (fD (dP (aL P.b_isinstance .builtin 9 rfl (a8 (a9 4 rfl ?_))))))))
    exact a8 (bG 12 rfl (by assumption) (aA (oN M.iN (kb (Ai rfl (rU rfl (dQ (⟨rfl,rfl⟩))))))))
  cases ok with
  |false=>
   exact hH rfl (aU (n6 E 11 rfl (by exact lv hl) fun d l=>⟨rfl,.inl rfl⟩))
  |true=>
  refine bK rfl ?_
  refine aF ?_;refine bU ?_
  refine WC.join p.isNone ?_ ?_
  ·refine cZ (eG (aK (a9 5 rfl (cE (nB (kb (bI ?_)))))))
   cases rP with
   |none=>
    exact bK rfl (⟨rfl,rfl⟩)
   |st=>
    refine cU rfl (eG (fD (dP (aL P.b_isinstance .builtin 9 rfl (a8 (a9 5 rfl (a8 (bG 14 rfl (by assumption) ?_))))))))
    exact aA (lU M.iSS (kb (zA rfl (⟨rfl,rfl⟩))))
   |nm=>
    refine cU rfl (eG (fD (dP (aL P.b_isinstance .builtin 9 rfl (a8 (a9 5 rfl (a8 (bG 14 rfl (by assumption) ?_))))))))
    exact aA (rW M.nN M.kNS (kb (rU rfl (dQ (⟨rfl,rfl⟩)))))
  cases hp:p with
  |none=>
   exact cU rfl (aU (n6 E 11 rfl (by exact lv hl) fun d l=>⟨rfl,.inr (.inl rfl)⟩))
  |some p' =>
  refine bK rfl ?_
  refine aF ?_;refine aM ?_
  refine WE.join (FU nv) ?_ ?_
  ·refine iB (aK (a9 6 rfl (cE (dM (kb (bI ?_))))))
   cases rN with
   |none=>refine cU rfl ?_;refine aC ?_;exact⟨rfl,rfl⟩
   |int=>refine bK rfl ?_;refine a9 6 rfl ?_;exact⟨rfl,rfl⟩
   |bool=>refine bK rfl ?_;refine a9 6 rfl ?_;exact⟨rfl,rfl⟩
   |st=>refine bK rfl ?_;refine a9 6 rfl ?_;exact⟨rfl,rfl⟩
  refine d8 8 rfl ?_;refine bU ?_
  refine WC.join n.isNone ?_ ?_
  ·refine cZ (fO (fD (dP (aL P.b_isinstance .builtin 9 rfl (a8 (a9 8 rfl (a8 (bG 15 rfl P.b_int ?_))))))))
   refine aA ?_
   cases rN with
   |none=>
    refine jJ (kb (nF rfl (fO (dP (aL P.b_isinstance .builtin 9 rfl (a8 (a9 8 rfl (a8 ?_))))))))
    exact bG 16 rfl P.b_bool (aA (iU (kb (nF rfl (eF (⟨rfl,rfl⟩))))))
   |int=>
    refine jJ (kb (nF rfl (fO (dP (aL P.b_isinstance .builtin 9 rfl (a8 (a9 8 rfl (a8 ?_))))))))
    exact bG 16 rfl P.b_bool (aA (iU (kb (nF rfl (eF (⟨rfl,rfl⟩))))))
   |bool=>
    refine rZ (kb (nF rfl (fO (dP (aL P.b_isinstance .builtin 9 rfl (a8 (a9 8 rfl (a8 ?_))))))))
    exact bG 16 rfl P.b_bool (aA (qD (kb (Ai rfl (⟨rfl,rfl⟩)))))
   |st=>
    exact B7 M.nS M.tSi rfl (kb (Ai rfl (⟨rfl,rfl⟩)))
  cases hn:n with
  |none=>
   exact cU rfl (aU (n6 E 11 rfl (by exact lv hl) fun d l=>⟨rfl,.inr (.inr rfl)⟩))
  |some n' =>
  refine bK rfl ?_
  have hnv:FU nv= .int n' :=by
   subst hn
   cases rN<;>rfl
  rw[hnv]
  refine aF (aO (bS (a8 (a9 1 rfl (a8 (a9 7 rfl (a8 (iB ?_))))))))
  refine aK (a9 5 rfl (cE (dM (kb (bI ?_)))))
  subst hp
  cases rP with
  |none=>
   exact cU rfl (aE (a8 (a9 8 rfl (aA (dA rfl (hRR _ _ (⟨⟨rfl,_,_,rfl,hn,rfl⟩,rfl⟩)))))))
  | @st l z1 z2=>
   refine bK rfl (aX (P.i 56 rfl) 17 rfl (a8 (jK (a9 5 rfl (jF M.aOct rfl rfl (aA ?_))))))
   refine⟨2,_,by exact lv hl,sV P z1 z2,?_⟩
   exact a8 (a9 8 rfl (aA (dA rfl (hRR _ _ (⟨⟨rfl,_,_,rfl,hn,rfl⟩,rfl⟩)))))
structure It where
 key:Int
 val:V
 w:Str
 ok:Bool
 p:Option Str
 n:Option Int
noncomputable def It.good(i:It):Prop:=i.ok=true∧fT (fun p n=>i.p=some p) (fun p n=>i.n=some n)
noncomputable def It.bad(i:It):Prop:=i.ok=false∨i.p=none∨i.n=none
noncomputable def It.rg(i:It):Rg:=⟨i.key,i.w,i.p.getD "",i.n.getD 0⟩
noncomputable def dY(l:List It):List (Int×V):=l.map fun i=>(i.key,i.val)
noncomputable def Ey(x0:Option V):List (Str×Slot):=[("shelf",.cel x0),("root",.loc none),("ranges",.loc none),("tree_pairs",.glob),("check_ranges",.glob)]
theorem mF{g:Gx}(P:PF g)(E:PE g){O:PO g}(M:PM g O){ta ra:Addr}{t:List (Int×V)}{m d0 d:List (Str×V)}{l:List It}{n:Nat}(hr:pF O t m d0)(hd:Fe O t ((aT d0 "PageLabels").getD .none) (.dct d))(hT:zX O t d (dY l) n)(hn:n≤3)(hz:l.length≤1000)(hi:∀i∈l,Rd O t i.val i.w i.ok i.p i.n):
  aS g 6 (.val (.ref (P.fa 60))) [cG O ta ra] [(ra,.dct m),(ta,.idct t)] (fun cls own=>(cls= .ref E.tf∧((∃i∈l,i.bad)∨chk (-1) (l.map It.rg)=false))∧own=[]) (fun v own=>(v= .lst ((l.map It.rg).map Rg.v)∧(∀i∈l,i.good)∧chk (-1) (l.map It.rg)=true)∧own=[]):=by
 refine aS.sub (X:=fun cls _=>cls= .ref E.tf∧((∃i∈l,i.bad)∨chk (-1) (l.map It.rg)=false)) (Q:=fun v _=>v= .lst ((l.map It.rg).map Rg.v)∧(∀i∈l,i.good)∧chk (-1) (l.map It.rg)=true) ?_ (fun v o h=>⟨[],List.nil_sublist _,h,rfl⟩) (fun v o h=>⟨[],List.nil_sublist _,h,rfl⟩)
 refine aN (ps:=["shelf"]) (P.i 60 rfl) (P.j 60 rfl) (fun _ _=>rfl) rfl fun c RR hRR hl hcel hcode hpins=>?_
 ·refine(?_:WX _ _ ⟨Ey (some _),_⟩ _ _)
  refine aM (aY (a9 0 rfl ?_))
  refine⟨_,dU M.mGe.ok rfl,.fn M.mGe.im.fn,?_⟩
  refine a8 (aY (a9 0 rfl ?_))
  refine⟨_,dU M.mRo.ok rfl,.fn M.mRo.im.fn,?_⟩
  refine aA (gL cT.all (by exact lv hl) (CO P M hr) (a8 (aE (aA (gL (.take .nil) (by exact lv hl) (u7 P M hd) (d8 1 rfl (bU (aK ?_))))))))
  refine a9 1 rfl (cE (dM (kb (gK rfl (aF ?_)))))
  refine aU (f9 (by exact .loc (.loc (.loc (.glob (.fre (.cel) (.nil)))))) (.skip (.skip .here)) ?_)
  refine bH (bM (P.i 27 rfl) 3 rfl (a8 (a9 0 rfl (a8 (a9 1 rfl (a8 (aE (aA ?_))))))))
  refine eW.det 5 (by exact lv hl) (.take .nil) (vD P M hT hn (by unfold dY;rw[List.length_map];exact hz)) ?_
  refine⟨_,.lst,by rw[lS];unfold dY;rw[List.length_map];exact Nat.le_trans hz (by decide),rfl,fun r ys own=>E2x5 (fun a b=>l=a++b) (fun a b=>r=bY (dY b)) (fun a b=>ys=(a.map It.rg).map Rg.v) (fun a b=>(∀i∈a,i.good)) (fun a b=>own=[(ta,.idct t),(ra,.dct m)]),⟨[],l,rfl,rfl,rfl,fun i h=>(nomatch h),rfl⟩,?_,?_⟩
  ·intro JJ1 hJJ1 x r ys own z0
   refine E2x5.e z0 fun a b e4 e5 e6 e7 z1=>?_
   clear z0
   subst z1
   intro e ps B
   cases b with
   |nil=>cases e5
   |cons i b=>
    cases e5
    have hm:i∈l:=by rw[e4];simp
    refine gW (.cons (.cons .nil)) (.cons (aR 1 rfl) (.cons (aR 2 rfl) .nil)) (f6 ?_)
    refine bM (c:=(c.of g).at e ps B) (P.i 59 rfl) 3 rfl (a8 (a9 4 rfl (a8 (a9 1 rfl (a8 (a9 2 rfl (aA ?_)))))))
    refine⟨4,_,_,_,_,show 4≤c.lvl by exact lv hl,.take .nil,vH (g:=g) P E M (hi i hm),fun y own' _ hy=>?_,fun cls own' hx=>⟨hx.1,.inl ⟨i,hm,hx.2⟩⟩⟩
    refine aG hy fun z0 z1=>?_
    clear hy
    refine aG z0 fun h1 z3=>?_
    clear z0
    refine cJ.e z3 fun p' n' h2 h3 z5=>?_
    clear z3
    subst z5
    subst z1
    refine hJJ1 _ _ _ ?_;refine⟨a++[i],b,by rw[List.append_assoc];exact e4,rfl,?_,fun j hj=>?_,rfl⟩
    ·rw[e6,List.map_append,List.map_append]
     unfold It.rg Rg.v
     simp[h2,h3]
    ·rcases List.mem_append.mp hj with hj|hj
     ·exact e7 j hj
     ·rw[List.mem_singleton.mp hj];exact⟨h1,p',n',h2,h3⟩
  intro ys own z0
  refine E2x5.e z0 fun a b e4 e5 z1 e7 z2=>?_
  clear z0
  subst z1
  subst z2
  cases b with
  |cons i b=>cases e5
  |nil=>
   rw[List.append_nil] at e4
   subst e4
   refine d8 2 rfl ?_;refine gZ ?_
   refine bM (P.i 52 rfl) 4 rfl (a8 (a9 2 rfl (aA ?_)))
   refine⟨3,[],_,_,_,by exact lv hl,cT.none,vN P E,fun y own' _ hy=>?_,fun cls own' hx=>?_⟩
   ·refine aG hy fun z0 z1=>?_
    clear hy
    refine aG z0 fun z3 h=>?_
    clear z0
    subst z3
    subst z1
    exact Aj (aO (a9 2 rfl (hRR _ _ (⟨rfl,e7,h⟩))))
   ·exact⟨hx.1.1,.inr hx.1.2⟩
theorem xU{g:Gx}(P:PF g){O:PO g}(M:PM g O){ta ra:Addr}{t:List (Int×V)}{m d0:List (Str×V)}(hr:pF O t m d0)(hd:aT d0 "PageLabels" =none):
  aS g 6 (.val (.ref (P.fa 60))) [cG O ta ra] [(ra,.dct m),(ta,.idct t)] cK (fun v own=>v= .lst []∧own=[]):=by
 refine aS.sub (X:=cK) (Q:=fun v _=>v= .lst []) ?_ (fun v o h=>⟨[],List.nil_sublist _,h,rfl⟩) (fun v o h=>h.elim)
 refine aN (ps:=["shelf"]) (P.i 60 rfl) (P.j 60 rfl) (fun _ _=>rfl) rfl fun c RR hRR hl hcel hcode hpins=>?_
 ·refine(?_:WX _ _ ⟨Ey (some _),_⟩ _ _)
  refine aM (aY (a9 0 rfl ?_))
  refine⟨_,dU M.mGe.ok rfl,.fn M.mGe.im.fn,?_⟩
  refine a8 (aY (a9 0 rfl ?_))
  refine⟨_,dU M.mRo.ok rfl,.fn M.mRo.im.fn,?_⟩
  refine aA (gL cT.all (by exact lv hl) (CO P M hr) (a8 (aE (aA ?_))))
  refine gL (.take .nil) (by exact lv hl) (u7 P M (y:= .none) (by rw[hd];exact .plain .none)) ?_
  refine d8 1 rfl (bU (aK (a9 1 rfl (cE (dM (kb (hH rfl (aO ?_))))))))
  refine cF (aA (eB rfl (hRR _ _ ?_)))
  rfl
theorem W1.ex{ι:Type}{c:Cx}{σ:St}{X:Value→St→Prop}{st:Stmt}{Q:Fl→St→Prop}(S:ι→St)(h1:W1 c st σ X fun fl s=>fl= .next∧∃k,s=S k)(h2:∀k,Q .next (S k)):W1 c st σ X Q:=
 WT.mono h1 fun _ _ ⟨e1,k,e2⟩=>by subst e1 e2;exact h2 k
theorem GX(ι:Type){c:Cx}{σ:St}{X:Value→St→Prop}{st:Stmt}{r:List Stmt}{Q:Fl→St→Prop}(S:ι→St)(h1:W1 c st σ X fun fl s=>fl= .next∧∃k,s=S k)(h2:∀k,WX c r (S k) X Q):WX c (st::r) σ X Q:=aU (W1.ex S h1 h2)
theorem WC.any{c:Cx}{σ:St}{X:Value→St→Prop}{e:Expr}{Q:Bool→St→Prop}(h1:WC c e σ X fun _ s=>s=σ)(h2:∀b,Q b σ):WC c e σ X Q:=
 WT.mono h1 fun b _ e2=>by subst e2;exact h2 b
theorem Ck{p q:Prop}{b:Bool}(h1:p)(h2:q):if b=true then p else q:=by refine bL (fun _=>?_) (fun _=>?_)<;>assumption
theorem WE.anyInt{c:Cx}{σ:St}{X:Value→St→Prop}{e:Expr}{Q:V→St→Prop}(h1:WE c e σ X fun v s=>∃k:Int,v= .int k∧s=σ)(h2:∀k:Int,Q (.int k) σ):WE c e σ X Q:=
 WT.mono h1 fun _ _ ⟨k,e1,e2⟩=>by subst e1 e2;exact h2 k
theorem WE.anyIn{c:Cx}{σ:St}{X:Value→St→Prop}{e:Expr}{Q:V→St→Prop}(hi:Int)(h1:WE c e σ X fun v s=>∃k:Int,v= .int k∧s=σ∧0≤k∧k<hi)(h2:∀k:Int,0≤k→k<hi→Q (.int k) σ):WE c e σ X Q:=
 WT.mono h1 fun _ _ ⟨k,e1,e2,e3,e4⟩=>by subst e1 e2;exact h2 k e3 e4
noncomputable def dW(cells:List Int)(spot left:Int):OV:= .pen [.lst (V.ints cells),.int spot,.int left]
structure eN(b:Int)(cells:List Int)(spot left:Int):Prop where
 n:cells.length≤1000
 s0:0≤spot
 s1:spot≤b
noncomputable def pX(a:Addr)(b:Int)(own:List (Addr×OV)):Prop:=sF (fun cells spot left=>eN b cells spot left) (fun cells spot left=>own=[(a,dW cells spot left)])
theorem C0{a b:Int}(h0:0≤a)(h1:a<2^64)(hb:b≤100):(Builtin.Int.intBits a:Int)*b≤2^27:=by
 have h:=intBits_le_64 (k:=a) (by exact aB [] [_] (.le (.n 0) .w) 1 (.lt (.g (.n 18446744073709551616)) .w) 0 qq h0) h1
 have h2:(Builtin.Int.intBits a:Int)≤64:=by exact aB [_] [] (.Le .w (.n 64)) 1 (.le (.c .w) (.n 64)) 0 qq h
 have h3:(0:Int)≤(Builtin.Int.intBits a:Int):=Int.natCast_nonneg _
 by_cases hb0:0≤b
 ·have:=Int.mul_le_mul h2 hb hb0 (by decide)
  exact aB [] [_] (.le .w (.m (.n 64) (.n 100))) 1 (.le .w (.n 134217728)) 0 qq this
 ·have:=Int.mul_nonpos_of_nonneg_of_nonpos h3 (show b≤0 by exact aB [] [_] (.nle (.n 0) .w) 1 (.le .w (.n 0)) 0 qq hb0)
  exact aB [] [_] (.le .w (.n 0)) 1 (.le .w (.n 134217728)) 0 qq this
theorem eZ{a m:Int}(h:0<m):0≤a.fmod m∧a.fmod m<m:=by
 rw[Int.fmod_eq_emod_of_nonneg _ (by exact aB [] [_] (.lt (.n 0) .w) 1 (.le (.n 0) .w) 0 qq h)]
 exact⟨Int.emod_nonneg _ (by lia -abstractProof),Int.emod_lt_of_pos _ h⟩
theorem rJ{α β:Type}(f:α→β)(l:List α)(lo hi:Option Int):pick (l.map f) lo hi=(pick l lo hi).map f:=by
 unfold pick
 rw[List.length_map,List.map_filterMap]
 have:(fun i:Nat=>(l.map f)[i]?)=fun i=>(l[i]?).map f:=funext fun i=>List.getElem?_map ..
 show List.filterMap (fun i:Nat=>(l.map f)[i]?) _=_
 rw[this]
theorem C1{α:Type}(l:List α)(lo hi:Option Int):(pick l lo hi).length≤l.length:=by
 have h:=slicePick_size_le (l.map fun _=>Value.none).toArray lo hi none
 rw[←Array.length_toList,jR] at h
 have e:(l.map fun _=>Value.none).toArray.toList=l.map fun _=>Value.none:=List.toList_toArray
 rw[e,rJ,List.length_map,List.size_toArray,List.length_map] at h
 exact h
theorem Gd{g:Gx}(P:PF g){ns:List Int}(hz:ns.length≤1000):aS g 1 (.val (.ref (P.fa 62))) [.lst (V.ints ns)] [] cK (fun v own=>cJ (fun a cells=>v= .val (.ref a)) (fun a cells=>own=[(a,.lst [.lst (V.ints cells),.int 0,.int 0])]) (fun a cells=>cells.length≤1000)):=by
 refine aN (ps:=["script"]) (P.i 62 rfl) (P.j 62 rfl) (fun _ _=>rfl) rfl fun c RR hRR hl hcel hcode hpins=>?_
 ·refine(?_:WX _ _ ⟨[("script",.loc (some _))],_⟩ _ _)
  refine aO (iA (a8 (dZ (by exact .loc (.loc (.glob (.nil)))) (bH (kK (a9 0 rfl (jU (eX ?_))))))))
  refine aC (nE ?_)
  refine⟨_,.lst (by rw[cQ];exact Nat.le_trans hz (by decide)),?_⟩
  obtain⟨ms,hms⟩:∃ms,pick ns none (some 40)=ms:=⟨_,rfl⟩
  have hml:ms.length≤1000:=by rw[←hms];exact Nat.le_trans (C1 ..) hz
  have hp:pick (V.ints ns) none (some 40)=V.ints ms:=by unfold V.ints;rw[rJ,hms]
  rw[hp]
  refine⟨_,.lst,B3 ms (V.int) (V.int) (R:=V.ints ms) rfl rfl (Nat.le_trans hml (by decide)) (fun n hm_ J_ ys hJ_ e ps B=>?_) ?_⟩
  ·refine bE 1 rfl (f6 ?_)
   exact fV rfl (aL P.b_int .type 2 rfl (a8 (a9 1 rfl (aA (dO (hJ_))))))
  refine a8 (aC (a8 (aC (aA (Cb rfl ?_)))))
  exact fun p hp=>by refine hRR _ _ ?_;exact⟨p,_,rfl,rfl,hml⟩
section
variable {c:Cx}{σ:St}{X:Value→St→Prop}{f a:Addr}{Q:V→St→Prop}{xs:List V}{rest:List (Addr×OV)}{b:Int}{cells₀:List Int}{s₀ l₀:Int}{n:Nat}
theorem eW.drawI{many:Int}(hn:n≤c.lvl)(hl:cT σ.own [(a,dW cells₀ s₀ l₀)] rest)(hw:aS c.g n (.val (.ref f)) xs [(a,dW cells₀ s₀ l₀)] cK fun v own=>∃d,v= .int d∧0≤d∧d<many∧pX a b own)
  (k:∀d cells s l,0≤d→d<many→eN b cells s l→Q (.int d) ⟨σ.env,(a,dW cells s l)::rest⟩):eW c X f Q xs σ:=
 ⟨n,_,rest,_,_,hn,hl,hw,fun _ _ _ h=>by obtain⟨d,rfl,h1,h2,cells,s,l,h3,rfl⟩:=h;exact k d cells s l h1 h2 h3,fun _ _ h=>h.elim⟩
theorem eW.pickI{is:List Int}(hn:n≤c.lvl)(hl:cT σ.own [(a,dW cells₀ s₀ l₀)] rest)(hw:aS c.g n (.val (.ref f)) xs [(a,dW cells₀ s₀ l₀)] cK fun v own=>v∈V.ints is∧pX a b own)
  (k:∀d cells s l,d∈is→eN b cells s l→Q (.int d) ⟨σ.env,(a,dW cells s l)::rest⟩):eW c X f Q xs σ:=
 ⟨n,_,rest,_,_,hn,hl,hw,fun _ _ _ h=>by obtain⟨h1,cells,s,l,h3,rfl⟩:=h;obtain⟨d,hd,rfl⟩:=List.mem_map.mp h1;exact k d cells s l hd h3,fun _ _ h=>h.elim⟩
theorem eW.pickS{is:List Str}(hn:n≤c.lvl)(hl:cT σ.own [(a,dW cells₀ s₀ l₀)] rest)(hw:aS c.g n (.val (.ref f)) xs [(a,dW cells₀ s₀ l₀)] cK fun v own=>v∈V.strs is∧pX a b own)
  (k:∀d cells s l,d∈is→eN b cells s l→Q (.str d) ⟨σ.env,(a,dW cells s l)::rest⟩):eW c X f Q xs σ:=
 ⟨n,_,rest,_,_,hn,hl,hw,fun _ _ _ h=>by obtain⟨h1,cells,s,l,h3,rfl⟩:=h;obtain⟨d,hd,rfl⟩:=List.mem_map.mp h1;exact k d cells s l hd h3,fun _ _ h=>h.elim⟩
end
noncomputable def Ex(x0 x1 x3 x4:Option V):List (Str×Slot):=[("pen",.loc x0),("many",.loc x1),("digit",.loc none),("spot",.loc x3),("cell",.loc x4),("great",.loc none),("stirred",.loc none),("int",.glob),("sum",.glob),("len",.glob),("abs",.glob)]
theorem gV{g:Gx}(P:PF g){a:Addr}{b:Int}{cells:List Int}{spot left many:Int}(ok:eN b cells spot left)(hb:b≤10000)(h0:1≤many)(h1:many≤100000):
  aS g 1 (.val (.ref (P.fa 63))) [.val (.ref a),.int many] [(a,dW cells spot left)] cK (fun v own=>∃d,v= .int d∧0≤d∧d<many∧pX a (b+1) own):=by
 obtain⟨hn,hs0,hs1⟩:=ok
 refine aN (ps:=["pen", "many"]) (P.i 63 rfl) (P.j 63 rfl) (fun _ _ _=>rfl) rfl fun c RR hRR hl hcel hcode hpins=>?_
 ·refine(?_:WX _ _ ⟨Ex (some _) (some _) none none,_⟩ _ _)
  refine bU (aK (aV (a9 0 rfl (aC (dX .here (j:=2) rfl rfl (by decide) (by decide) (aC (qA (kb ?_))))))))
  refine bL (fun _=>?_) (fun _=>?_)
  ·rename_i e1
   refine aM (aD (aL P.b_int .type 7 rfl (a8 (aV (a9 0 rfl (aC (dX .here (j:=2) rfl rfl (by decide) (by decide) (aA ?_))))))))
   refine dO (a9 1 rfl ?_)
   refine bW (by(clear e1 hcode hpins hcel hl hRR hs1 hs0 hn hb;lia -abstractProof)) ?_
   refine d8 2 rfl ?_
   refine aU (eH ?_)
   refine aD (aL P.b_int .type 7 rfl (a8 (aV (a9 0 rfl (aC (dX .here (j:=2) rfl rfl (by decide) (by decide) (aA (dO ?_))))))))
   refine a9 1 rfl ?_
   refine cL (by(clear e1 hcode hpins hcel hl hRR hs1 hs0 hn hb;lia -abstractProof)) (PyProof.noPylong_small (by exact aI [_] [_] (.le .w (.n 100000)) 1 (.eq (.c .w) .w) 1 (.Lt .w (.n 1073741824)) 0 qq h1 (Int.natAbs_of_nonneg (aB [] [_] (.le (.n 1) .w) 1 (.le (.n 0) .w) 0 qq h0)))) ?_
   refine a9 0 rfl (aC ?_)
   refine⟨_,rfl,?_⟩
   refine .inl ⟨_,_,_,rfl,by decide,by exact(show(2:Int)<3 by decide),by decide,.here,?_⟩
   refine aO (a9 2 rfl (hRR _ _ ?_))
   refine⟨_,rfl,?_⟩
   exact⟨(eZ (by exact aB [] [_] (.le (.n 1) .w) 1 (.lt (.n 0) .w) 0 qq h0)).1,(eZ (by exact aB [] [_] (.le (.n 1) .w) 1 (.lt (.n 0) .w) 0 qq h0)).2,cells,spot,left.fdiv many,⟨hn,hs0,by exact aB [] [_,_] (.le .w .x) 1 (.le .w (.a .x (.n 1))) 0 qq hs1⟩,rfl⟩
  ·rename_i e1
   refine aF (aM (aV (a9 0 rfl (aC (dX .here (j:=1) rfl rfl (by decide) (by decide) (d8 3 rfl ?_))))))
   refine aU (eH ?_)
   refine aD (a9 3 rfl (aC (aJ (a9 0 rfl (aC ?_)))))
   refine⟨_,rfl,?_⟩
   refine .inl ⟨_,_,_,rfl,by decide,by exact(show(1:Int)<3 by decide),by decide,.here,?_⟩
   obtain⟨pn,hpn⟩:∃o,OV.pen ([V.lst (V.ints cells),V.int spot,V.int left].set (Int.toNat 1) (V.int (spot+1)))=o:=⟨_,rfl⟩
   have hpn:dW cells (spot+1) left=pn:=hpn
   subst hpn
   refine aM (aD (aD (aD (aC (a9 3 rfl ?_)))))
   refine eJ ?_ (.of_left (by decide))
   refine aC (aJ (aD (aL P.b_int .type 7 rfl (a8 (aL P.b_sum .builtin 8 rfl (a8 (kK (aV ?_))))))))
   refine a9 0 rfl (aC (dX .here (j:=0) rfl rfl (by decide) (by decide) (jU (eX (aC (nE ?_))))))
   refine⟨_,.lst (by rw[cQ];exact Nat.le_trans hn (by decide)),?_⟩
   rw[show pick (V.ints cells) none (some 1)=V.ints (pick cells none (some 1)) from rJ ..]
   refine aA (E9 (aA (dO (aC (bW (by decide) ?_)))))
   refine aJ ?_;refine d8 4 rfl ?_
   refine GX ?_ ?_ ?_ ?_
   ·exact Int
   ·exact fun k:Int=>⟨Ex (some (.val (.ref a))) (some (.int many)) (some (.int spot)) (some (.int k)),[(a,dW cells (spot+1) left)]⟩
   ·refine wK (aK (aV (a9 0 rfl (aC (dX .here (j:=0) rfl rfl (by decide) (by decide) (cF (aA (eB rfl ?_))))))))
    refine l5 (r:=[]) Cv (fun _ _=>trivial) (fun _ _=>trivial) (kb ?_)
    refine bL (fun _=>?_) (fun _=>?_)
    ·rename_i e2
     have hc:0<cells.length:=by
      cases cells with
      |nil=>simp at e2
      |cons x r=>simp
     refine aM (aV (aV (a9 0 rfl (aC (dX .here (j:=0) rfl rfl (by decide) (by decide) (aD (aL P.b_int .type 7 rfl (a8 ?_))))))))
     refine a9 3 rfl (aA (dO (aL P.b_len .builtin 9 rfl (a8 (aV (a9 0 rfl (aC (dX .here (j:=0) rfl rfl (by decide) (by decide) ?_))))))))
     refine aA ?_
     refine bP (by rw[cQ];exact Nat.le_trans hn (by decide)) ?_
     rw[cQ]
     refine bW (by(clear e2 hpn e1 hcode hpins hcel hl hRR hs1 hs0 h1 h0 hb;lia -abstractProof)) ?_
     refine aG (eZ (a:=spot) (m:=(cells.length:Int)) (by omega)) fun m1 m2=>?_
     obtain⟨j,hj⟩:∃j:Nat,spot.fmod (cells.length:Int)=(j:Int):=⟨(spot.fmod (cells.length:Int)).toNat,by exact cA [_] [_] (.eq (.c .w) .w) (.negSucc 0) (.eq .w (.c .w)) qq (Int.toNat_of_nonneg (m1))⟩
     rw[hj] at m2 ⊢
     have hjl:j<cells.length:=by exact aB [_,_] [] (.lt (.c .w) (.c .x)) 1 (.Lt .w .x) 0 qq m2
     refine o_item_lst (j:=j) (x:= .int cells[j]) (by rw[cQ,bA (by exact aZ [_] [] (.le (.n 0) (.c .w)) 0 qq) m2];rfl) (by unfold V.ints;rw[List.getElem?_map,List.getElem?_eq_getElem hjl];rfl) (by exact aZ [_] [] (.le (.g (.n 9223372036854775808)) (.c .w)) 0 qq) (by exact aI [_,_] [] (.Le .x (.n 1000)) 1 (.Lt .w .x) 1 (.lt (.c .w) (.n 9223372036854775808)) 0 qq hn hjl) ?_
     exact d8 4 rfl (aF (⟨rfl,cells[j],rfl⟩))
    ·rename_i e2
     exact aF (⟨rfl,_,rfl⟩)
   ·intro k
    refine bU ?_
    refine WC.any ?_ fun big=>?_
    ·refine cZ (eG (aK (a9 3 rfl (aL P.b_len .builtin 9 rfl (a8 (aV (a9 0 rfl (aC ?_))))))))
     refine dX .here (j:=0) rfl rfl (by decide) (by decide) (aA ?_)
     refine bP (by rw[cQ];exact Nat.le_trans hn (by decide)) ?_
     refine q9 (kb ?_)
     refine bL (fun _=>?_) (fun _=>?_)
     ·refine eG (aK (aL P.b_abs .builtin 10 rfl (a8 (a9 4 rfl (aA (Ea (aD (aC ?_))))))))
      refine aC (lN (by decide) (by decide) (F3 (kb (bI ?_))))
      refine Ck ?_ ?_
      ·refine dQ ?_;rfl
      ·rfl
     ·rfl
    cases big with
    |true=>
     refine cU rfl (aM ?_)
     refine WE.anyInt ?_ fun great=>?_
     ·refine aD (aD (aC (aD (aL P.b_abs .builtin 10 rfl (a8 (a9 4 rfl (aA (Ea ?_))))))))
      refine aD (aC (aC (lN (by decide) (by decide) (bN ?_))))
      refine eJ ?_ (.of_left (by decide))
      refine aL P.b_int .type 7 rfl (a8 (nQ (a9 4 rfl (aC (q9 (aA (zD (aJ ?_))))))))
      refine⟨_,rfl,?_⟩
      rfl
     refine d8 5 rfl ?_
     refine aU (eH ?_)
     refine aD (aL P.b_int .type 7 rfl (a8 (a9 5 rfl (aA (dO (a9 1 rfl ?_))))))
     refine cL (by(clear hpn e1 hcode hpins hcel hl hRR hs1 hs0 hn hb;lia -abstractProof)) (PyProof.noPylong_small (by exact aI [_] [_] (.le .w (.n 100000)) 1 (.eq (.c .w) .w) 1 (.Lt .w (.n 1073741824)) 0 qq h1 (Int.natAbs_of_nonneg (aB [] [_] (.le (.n 1) .w) 1 (.le (.n 0) .w) 0 qq h0)))) ?_
     refine a9 0 rfl (aC ?_)
     refine⟨_,rfl,?_⟩
     refine .inl ⟨_,_,_,rfl,by decide,by exact(show(2:Int)<3 by decide),by decide,.here,?_⟩
     refine aO (aD (aL P.b_int .type 7 rfl (a8 (a9 5 rfl (aA (dO (a9 1 rfl ?_)))))))
     refine bW (by(clear hpn e1 hcode hpins hcel hl hRR hs1 hs0 hn hb;lia -abstractProof)) ?_
     refine hRR _ _ ?_
     refine⟨_,rfl,?_⟩
     exact⟨(eZ (by exact aB [] [_] (.le (.n 1) .w) 1 (.lt (.n 0) .w) 0 qq h0)).1,(eZ (by exact aB [] [_] (.le (.n 1) .w) 1 (.lt (.n 0) .w) 0 qq h0)).2,cells,spot+1,great.fdiv many,⟨hn,by exact aB [] [_] (.le (.n 0) .w) 1 (.le (.n 0) (.a .w (.n 1))) 0 qq hs0,by exact aB [] [_,_] (.le .w .x) 1 (.le (.a .w (.n 1)) (.a .x (.n 1))) 0 qq hs1⟩,rfl⟩
    |false=>
     refine bK rfl ?_
     refine aF ?_;refine aM ?_
     refine WE.anyIn 2147483629 ?_ fun s1 s10 s11=>?_
     ·refine aD (aL P.b_int .type 7 rfl (a8 (aD (aD (aD (aD (aL P.b_int .type 7 rfl (a8 ?_))))))))
      refine a9 4 rfl (aA (dO (aC (bW (by decide) (aD (aC (a9 3 rfl ?_)))))))
      refine eJ ?_ (.of_left (by decide))
      refine aJ (aC (aJ (aC (aG (eZ (a:=k) (m:=2147483587) (by decide)) fun m1 m2=>lN (by decide) (C0 (by exact aI [] [_,_] (.le (.n 0) .x) 20947 (.le (.n 0) .w) 1 (.le (.n 0) (.a (.a .w (.m (.n 20947) .x)) (.n 3571))) 0 qq hs0 m1) (by exact eQ [] [_,_,_] (.le .y (.n 10000)) 20947 (.le .x .y) 20947 (.lt .w (.n 2147483587)) 1 (.lt (.a (.a .w (.m (.n 20947) .x)) (.n 3571)) (.n 18446744073709551616)) 0 qq hb hs1 m2) (by decide)) ?_))))
      exact aA (dO (aC (bW (by decide) (⟨_,rfl,rfl,eZ (by decide)⟩))))
     refine d8 6 rfl ?_;refine aM ?_
     refine WE.anyIn 2147483579 ?_ fun s2 s20 s21=>?_
     ·refine aD (aL P.b_int .type 7 rfl (a8 (aD (aD (aD (aD (a9 6 rfl (aD ?_))))))))
      refine aD (aC (a9 3 rfl ?_))
      refine eJ ?_ (.of_left (by decide))
      refine aC (aJ ?_)
      refine eJ ?_ (.of_left (intBits_le_64 (by exact aB [] [_] (.le (.n 0) .w) 1 (.lt (.g (.n 18446744073709551616)) .w) 0 qq s10) (by exact aB [] [_] (.lt .w (.n 2147483629)) 1 (.lt .w (.n 18446744073709551616)) 0 qq s11)))
      refine aD (aD (aC (a9 3 rfl ?_)))
      refine eJ ?_ (.of_left (by decide))
      refine a9 3 rfl ?_
      refine eJ ?_ (.of_left (intBits_le_64 (by exact aB [] [_] (.le (.n 0) .w) 20947 (.lt (.g (.n 18446744073709551616)) (.m (.n 20947) .w)) 0 qq hs0) (by exact aI [] [_,_] (.le .x (.n 10000)) 20947 (.le .w .x) 20947 (.lt (.m (.n 20947) .w) (.n 18446744073709551616)) 0 qq hb hs1)))
      refine aJ (aC (aJ (aC ?_)))
      have e1:s1*(2*spot+7207)≤2147483629*40000:=Int.mul_le_mul (by exact aB [] [_] (.lt .w (.n 2147483629)) 1 (.le .w (.n 2147483629)) 0 qq s11) (by exact aI [] [_,_] (.le .x (.n 10000)) 2 (.le .w .x) 2 (.le (.a (.m (.n 2) .w) (.n 7207)) (.n 40000)) 0 qq hb hs1) (by exact aB [] [_] (.le (.n 0) .w) 2 (.le (.n 0) (.a (.m (.n 2) .w) (.n 7207))) 0 qq hs0) (by decide)
      have e2:0≤s1*(2*spot+7207):=Int.mul_nonneg (by assumption) (by exact aB [] [_] (.le (.n 0) .w) 2 (.le (.n 0) (.a (.m (.n 2) .w) (.n 7207))) 0 qq hs0)
      have e3:20947*spot*spot≤209470000*10000:=Int.mul_le_mul (by exact aI [] [_,_] (.le .x (.n 10000)) 20947 (.le .w .x) 20947 (.le (.m (.n 20947) .w) (.n 209470000)) 0 qq hb hs1) (by exact aI [] [_,_] (.le .x (.n 10000)) 1 (.le .w .x) 1 (.le .w (.n 10000)) 0 qq hb hs1) (by assumption) (by decide)
      have e4:0≤20947*spot*spot:=Int.mul_nonneg (by exact aB [] [_] (.le (.n 0) .w) 20947 (.le (.n 0) (.m (.n 20947) .w)) 0 qq hs0) (by assumption)
      exact lN (by decide) (C0 (by exact aI [] [_,_] (.le (.n 0) .w) 1 (.le (.n 0) .x) 1 (.le (.n 0) (.a (.a .w .x) (.n 31))) 0 qq e2 e4) (by exact aI [] [_,_] (.le .w (.m (.n 2147483629) (.n 40000))) 1 (.le .x (.m (.n 209470000) (.n 10000))) 1 (.lt (.a (.a .w .x) (.n 31)) (.n 18446744073709551616)) 0 qq e1 e3) (by decide)) (aA (dO (aC (bW (by decide) (⟨_,rfl,rfl,eZ (by decide)⟩)))))
     refine d8 6 rfl (aO (aD (aL P.b_int .type 7 rfl (a8 (aD (a9 6 rfl (aC (cL (by decide) (PyProof.noPylong_small (by decide)) ?_))))))))
     refine aA (dO (a9 1 rfl ?_))
     refine bW (by(clear s21 s20 s11 s10 hpn e1 hcode hpins hcel hl hRR hs1 hs0 hn hb;lia -abstractProof)) ?_
     refine hRR _ _ ?_
     refine⟨_,rfl,?_⟩
     exact⟨(eZ (by exact aB [] [_] (.le (.n 1) .w) 1 (.lt (.n 0) .w) 0 qq h0)).1,(eZ (by exact aB [] [_] (.le (.n 1) .w) 1 (.lt (.n 0) .w) 0 qq h0)).2,cells,spot+1,left,⟨hn,by exact aB [] [_] (.le (.n 0) .w) 1 (.le (.n 0) (.a .w (.n 1))) 0 qq hs0,by exact aB [] [_,_] (.le .w .x) 1 (.le (.a .w (.n 1)) (.a .x (.n 1))) 0 qq hs1⟩,rfl⟩
noncomputable def Fy(x0 x1:Option V):List (Str×Slot):=[("pen",.loc x0),("some",.loc x1),("_law_draw",.glob),("len",.glob)]
theorem lF{g:Gx}(P:PF g){a:Addr}{b:Int}{cells:List Int}{spot left:Int}{xs:List V}(ok:eN b cells spot left)(hb:b≤10000)(h0:1≤xs.length)(h1:xs.length≤1000):
  aS g 2 (.val (.ref (P.fa 64))) [.val (.ref a),.lst xs] [(a,dW cells spot left)] cK (fun v own=>v∈xs∧pX a (b+1) own):=by
 refine aN (ps:=["pen", "some"]) (P.i 64 rfl) (P.j 64 rfl) (fun _ _ _=>rfl) rfl fun c RR hRR hl hcel hcode hpins=>?_
 ·refine(?_:WX _ _ ⟨Fy (some _) (some _),_⟩ _ _)
  refine aO (aV (a9 1 rfl (bM (P.i 63 rfl) 2 rfl (a8 (a9 0 rfl (a8 (aL P.b_len .builtin 3 rfl (a8 ?_))))))))
  refine a9 1 rfl (aA (bP (Nat.le_trans h1 (by decide)) (aA (eW.drawI (by exact lv hl) cT.all (gV P ok hb (by exact aB [_] [] (.Le (.n 1) .w) 1 (.le (.n 1) (.c .w)) 0 qq h0) (by exact aB [_] [] (.Le .w (.n 1000)) 1 (.le (.c .w) (.n 100000)) 0 qq h1)) fun d cells' spot' left' d0 d1 ok' =>?_))))
  obtain⟨j,rfl⟩:∃j:Nat,d=(j:Int):=⟨d.toNat,by exact cA [_] [_] (.eq (.c .w) .w) (.negSucc 0) (.eq .w (.c .w)) qq (Int.toNat_of_nonneg (d0))⟩
  have hj:j<xs.length:=by exact aB [_,_] [] (.lt (.c .w) (.c .x)) 1 (.Lt .w .x) 0 qq d1
  refine o_item_lst (j:=j) (by rw[bA (by assumption) d1];rfl) (List.getElem?_eq_getElem hj) (by exact aZ [_] [] (.le (.g (.n 9223372036854775808)) (.c .w)) 0 qq) (by exact aI [_,_] [] (.Le .x (.n 1000)) 1 (.Lt .w .x) 1 (.lt (.c .w) (.n 9223372036854775808)) 0 qq h1 hj) ?_
  refine hRR _ _ ?_;exact⟨List.getElem_mem hj,cells',spot',left',ok',rfl⟩
noncomputable def kC(signs:Str)(d:Nat):List Nat:=(sL.getD d "").cps.toList.map fun ch=>signs.cps.getD (ch-97) 0
noncomputable def iT(n:Int):List (Str×Int):=[("CDM",(n.fdiv 100).fmod 10),("XLC",(n.fdiv 10).fmod 10),("IVX",n.fmod 10)]
noncomputable def rR(n:Int):Str:=S (List.replicate (n.fdiv 1000).toNat 77++(iT n).flatMap fun p=>kC p.1 p.2.toNat)
theorem Dq:∀d:Nat,d<10→∀ch∈(sL.getD d "").cps.toList,ch=97∨ch=98∨ch=99:=by decide+kernel
theorem wE:∀d:Nat,d<10→(sL.getD d "").length≤4:=by decide+kernel
theorem Fp:∀ch:Nat,ch=97∨ch=98∨ch=99→PySem.Builtin.Str.occurrences ("abc" :Str) (lW ch) 0 ("abc" :Str).length 1=[ch-97]:=by
 rintro ch (rfl|rfl|rfl)<;>decide+kernel
theorem Dr{d:Nat}(h:d<10):sL[d]? =some (sL.getD d ""):=by
 have h' :d<sL.length:=h
 rw[List.getD_eq_getElem?_getD,List.getElem?_eq_getElem h'];rfl
theorem yZ{x:Str}{d:Nat}(h:d<10):(kC x d).length≤4:=by
 unfold kC;rw[List.length_map,←len_list];exact wE d h
noncomputable def Da(x0 x1 x2 x3 x4:Option V):List (Str×Slot):=[("number",.loc x0),("found",.loc x1),("signs",.loc x2),("part",.loc x3),("sign",.loc x4),("_law_tens",.glob)]
theorem jB{g:Gx}(P:PF g){n:Int}(h0:0≤n)(h1:n≤100000):Pure g 1 (P.fa 66) [.int n] (.str (rR n)):=by
 refine aN (ps:=["number"]) (P.i 66 rfl) (P.j 66 rfl) (fun _ _=>rfl) rfl fun c RR hRR hl hcel hcode hpins=>?_
 ·refine j4 (eR (n:=n) (w:=1000) h0 (by decide)) fun d1 d2 d3 d4 d5=>?_
  have parts:∀p∈iT n,p.1.length=3∧0≤p.2∧p.2<10:=by
   intro p hp
   unfold iT at hp
   rcases List.mem_cons.mp hp with rfl|hp
   ·exact⟨show("CDM" :Str).length=3 by decide,eZ (by decide)⟩
   ·rcases List.mem_cons.mp hp with rfl|hp
    ·exact⟨show("XLC" :Str).length=3 by decide,eZ (by decide)⟩
    ·rw[List.mem_singleton.mp hp];exact⟨show("IVX" :Str).length=3 by decide,eZ (by decide)⟩
  refine(?_:WX _ _ ⟨Da (some _) none none none none,_⟩ _ _)
  refine aM (aD (aE (aD (a9 0 rfl (aC ?_)))))
  refine cL (by decide) (PyProof.noPylong_small (by decide)) (iH ?_ (fK (by decide) (by exact aI [] [_,_] (.le .x (.n 100000)) 1 (.le .w .x) 1 (.le .w (.n 1048576)) 0 qq h1 d2) (by exact aB [] [_] (.le (.n 0) .w) 1 (.le (.g (.n 1048576)) .w) 0 qq d1)))
  rw[show("M" :Str)=S [77] by decide,y5]
  refine d8 1 rfl ?_
  refine iJ ?_ ?_ ?_ ?_
  ·exact fun items σ=>t0 (fun pre r l w1 w2 w3=>iT n=pre++r) (fun pre r l w1 w2 w3=>items=r.map (fun p=>V.tup [.str p.1,.int p.2])) (fun pre r l w1 w2 w3=>l=List.replicate (n.fdiv 1000).toNat 77++(pre.flatMap fun p=>kC p.1 p.2.toNat)) (fun pre r l w1 w2 w3=>l.length≤100000+4*pre.length) (fun pre r l w1 w2 w3=>σ=⟨Da (some (.int n)) (some (.str (S l))) w1 w2 w3,[]⟩)
  ·refine bH (bS (a8 (bS (a8 (aE (a8 (aD (aD ?_))))))))
   refine a9 0 rfl (aC (cL (by decide) (PyProof.noPylong_small (by decide)) (aC (bW (by decide) (aA (dA rfl (a8 (bS ?_))))))))
   refine a8 (aE (a8 (aD (aD (a9 0 rfl (aC (cL (by decide) (PyProof.noPylong_small (by decide)) (aC ?_))))))))
   refine bW (by decide) (aA (dA rfl (a8 (bS (a8 (aE (a8 (aD ?_))))))))
   refine a9 0 rfl (aC (bW (by decide) (aA (dA rfl (aA (dA rfl ?_))))))
   refine⟨_,.tup,[],iT n,_,none,none,none,rfl,rfl,rfl,?_,?_⟩
   ·rw[List.flatMap_nil,List.append_nil,List.length_replicate];show _≤100000+0;exact eQ [_] [_,_] (.le .w (.n 100000)) 1 (.le .x .w) 1 (.eq (.c .w) .x) 1 (.Le .w (.a (.n 100000) (.n 0))) 0 qq h1 d2 (Int.toNat_of_nonneg (d1))
   ·rw[List.flatMap_nil,List.append_nil]
    have:∀k:Nat,(List.replicate k [77]).flatten=List.replicate k 77:=fun k=>by induction k with
     |zero=>rfl
     |succ k ih=>rw[List.replicate_succ,List.flatten_cons,ih,List.replicate_succ];rfl
    rw[this];rfl
  ·intro JJ1 hJJ1 v r σ₁ z0
   refine t0.e z0 fun pre r' l w1 w2 w3 e1 e2 e3 e4 z1=>?_
   clear z0
   subst z1
   intro ps
   cases r' with
   |nil=>cases e2
   |cons q r' =>
    cases e2
    refine eT (parts q (by rw[e1];simp)) fun p1 p2 p3=>?_
    have hpl:pre.length≤3:=by have:=congrArg List.length e1;rw[List.length_append] at this;have h3:(iT n).length=3:=rfl;exact aI [_,_,_] [] (.Eq .x (.a .w .y)) (.negSucc 0) (.Eq .x (.n 3)) 1 (.Le .w (.n 3)) 0 qq this h3
    obtain⟨qs,qd⟩:=q
    obtain⟨d,rfl⟩:∃d:Nat,qd=(d:Int):=⟨qd.toNat,by simp only at p2;exact cA [_] [_] (.eq (.c .w) .w) (.negSucc 0) (.eq .w (.c .w)) qq (Int.toNat_of_nonneg (p2))⟩
    have hd:d<10:=by simp only at p3;exact aB [_] [] (.lt (.c .w) (.n 10)) 1 (.Lt .w (.n 10)) 0 qq p3
    have p1:qs.length=3:=p1
    refine gW (.cons (.cons .nil)) (.cons (aR 2 rfl) (.cons (aR 3 rfl) .nil)) ?_
    refine iJ ?_ ?_ ?_ ?_
    ·exact fun items σ=>jP (fun a b w=>(sL.getD d "").cps.toList=a++b) (fun a b w=>items=b.map (fun n=>V.str (lW n))) (fun a b w=>σ=⟨Da (some (.int n)) (some (.str (S (l++a.map fun ch=>qs.cps.getD (ch-97) 0)))) (some (.str qs)) (some (.int d)) w,[]⟩)
    ·refine bH (aV (bG 5 rfl P.g__law_tens (a9 3 rfl ?_)))
     refine cD (j:=d) (by rw[bA (by assumption) (by show(d:Int)<10;assumption)];rfl) (by show(sL.map V.str)[d]? =_;rw[List.getElem?_map,Dr hd];rfl) (by exact aZ [_] [] (.le (.g (.n 9223372036854775808)) (.c .w)) 0 qq) (by exact aB [_] [] (.Lt .w (.n 10)) 1 (.lt (.c .w) (.n 9223372036854775808)) 0 qq hd) ?_
     exact⟨_,.str,[],_,w3,rfl,rfl,by rw[List.map_nil,List.append_nil];rfl⟩
    ·intro JJ2 hJJ2 v r σ₁ z0
     refine jP.e z0 fun a b w f1 f2 z1=>?_
     clear z0
     subst z1
     intro ps
     cases b with
     |nil=>cases f2
     |cons ch b=>
      cases f2
      have hch:=Dq d hd ch (by rw[f1];simp)
      have hal:a.length≤4:=by have h4:=wE d hd;rw[len_list,f1,List.length_append] at h4;exact aB [_,_] [] (.Le (.a .w .x) (.n 4)) 1 (.Le .w (.n 4)) 0 qq h4
      have hix:ch-97<qs.cps.size:=by show ch-97<qs.length;exact m0 hch (fun q0=>eQ [_,_,_] [] (.Eq .x (.n 3)) (.negSucc 0) (.Eq .y (.n 97)) 3 (.Eq (.a .w (.n 97)) .y) 3 (.Lt .w .x) 2 qq p1 q0 (Nat.sub_add_cancel (aB [_] [] (.Eq .w (.n 97)) (.negSucc 0) (.Le (.n 97) .w) 0 qq q0))) (fun q0=>m0 q0 (fun q1=>eQ [_,_,_] [] (.Eq .x (.n 3)) (.negSucc 1) (.Eq .y (.n 98)) 3 (.Eq (.a .w (.n 97)) .y) 3 (.Lt .w .x) 2 qq p1 q1 (Nat.sub_add_cancel (aB [_] [] (.Eq .w (.n 98)) (.negSucc 96) (.Le (.n 97) .w) 97 qq q1))) (fun q1=>eQ [_,_,_] [] (.Eq .x (.n 3)) (.negSucc 0) (.Eq .y (.n 99)) 1 (.Eq (.a .w (.n 97)) .y) 1 (.Lt .w .x) 0 qq p1 q1 (Nat.sub_add_cancel (aB [_] [] (.Eq .w (.n 99)) (.negSucc 96) (.Le (.n 97) .w) 98 qq q1))))
      refine bE 4 rfl (aM (aD (a9 1 rfl (aV (a9 2 rfl (aY (aE (eA t7 .builtin ?_))))))))
      refine a8 (a9 4 rfl (aA (x8 (i:=ch-97) (rest:=[]) (Fp ch hch) ?_)))
      refine fG (ch:=qs.cps.getD (ch-97) 0) (by exact aZ [_] [] (.le (.g (.n 9223372036854775808)) (.c .w)) 0 qq) (by exact m0 hch (fun q0=>aI [_,_] [] (.Eq .x (.n 97)) 1 (.Eq (.a .w (.n 97)) .x) 1 (.lt (.c .w) (.n 9223372036854775808)) 0 qq q0 (Nat.sub_add_cancel (aB [_] [] (.Eq .w (.n 97)) (.negSucc 0) (.Le (.n 97) .w) 0 qq q0))) (fun q0=>m0 q0 (fun q1=>aI [_,_] [] (.Eq .x (.n 98)) 1 (.Eq (.a .w (.n 97)) .x) 1 (.lt (.c .w) (.n 9223372036854775808)) 0 qq q1 (Nat.sub_add_cancel (aB [_] [] (.Eq .w (.n 98)) (.negSucc 96) (.Le (.n 97) .w) 97 qq q1))) (fun q1=>aI [_,_] [] (.Eq .x (.n 99)) 1 (.Eq (.a .w (.n 97)) .x) 1 (.lt (.c .w) (.n 9223372036854775808)) 0 qq q1 (Nat.sub_add_cancel (aB [_] [] (.Eq .w (.n 99)) (.negSucc 96) (.Le (.n 97) .w) 98 qq q1))))) ?_ ?_
      ·rw[bA (by exact aZ [_] [] (.le (.n 0) (.c .w)) 0 qq) (by exact m0 hch (fun q0=>eQ [_,_,_] [] (.Eq .x (.n 3)) (.negSucc 0) (.Eq .y (.n 97)) 3 (.Eq (.a .w (.n 97)) .y) 3 (.lt (.c .w) (.c .x)) 2 qq p1 q0 (Nat.sub_add_cancel (aB [_] [] (.Eq .w (.n 97)) (.negSucc 0) (.Le (.n 97) .w) 0 qq q0))) (fun q0=>m0 q0 (fun q1=>eQ [_,_,_] [] (.Eq .x (.n 3)) (.negSucc 1) (.Eq .y (.n 98)) 3 (.Eq (.a .w (.n 97)) .y) 3 (.lt (.c .w) (.c .x)) 2 qq p1 q1 (Nat.sub_add_cancel (aB [_] [] (.Eq .w (.n 98)) (.negSucc 96) (.Le (.n 97) .w) 97 qq q1))) (fun q1=>eQ [_,_,_] [] (.Eq .x (.n 3)) (.negSucc 0) (.Eq .y (.n 99)) 1 (.Eq (.a .w (.n 97)) .y) 1 (.lt (.c .w) (.c .x)) 0 qq p1 q1 (Nat.sub_add_cancel (aB [_] [] (.Eq .w (.n 99)) (.negSucc 96) (.Le (.n 97) .w) 98 qq q1)))))]
       show qs.cps[(((ch-97:Nat):Int)).toNat]? =_
       rw[Int.toNat_natCast,Array.getD_eq_getD_getElem?,Array.getElem?_eq_getElem hix];rfl
      refine lP ?_ (show _≤16777216 by rw[iZ,List.length_append,List.length_map];show _+1≤_;exact eQ [_,_,_] [] (.Le .w (.a (.n 100000) (.m 4 .y))) 1 (.Le .y (.n 3)) 4 (.Le .x (.n 4)) 1 (.Le (.a (.a .w .x) (.n 1)) (.n 16777216)) 0 qq e4 hpl hal)
      rw[show(⟨#[qs.cps.getD (ch-97) 0]⟩:Str)=S [qs.cps.getD (ch-97) 0] from rfl,Ei]
      refine d8 1 rfl (aF (hJJ2 _ _ ?_))
      exact⟨a++[ch],b,_,by rw[List.append_assoc];exact f1,rfl,by rw[List.map_append,List.append_assoc];rfl⟩
    ·intro σ₁ z0
     refine jP.e z0 fun a b w f1 f2 z1=>?_
     clear z0
     subst z1
     cases b with
     |cons ch b=>cases f2
     |nil=>
      rw[List.append_nil] at f1
      subst f1
      refine aF (aF (hJJ1 _ _ ?_))
      refine⟨pre++[(qs,(d:Int))],r',_,_,_,_,by rw[List.append_assoc];exact e1,rfl,?_,?_,rfl⟩
      ·rw[e3,List.flatMap_append,List.append_assoc];simp[kC]
      ·have:=yZ (x:=qs) hd
       unfold kC at this
       rw[List.length_append,List.length_append];simp only[List.length_cons,List.length_nil];exact aI [_,_,_] [] (.Le .w (.a (.n 100000) (.m 4 .y))) 1 (.Le .x (.n 4)) 1 (.Le (.a .w .x) (.a (.n 100000) (.m 4 (.a .y (.a (.n 0) (.n 1)))))) 0 qq e4 this
  ·intro σ₁ z0
   refine t0.e z0 fun pre r' l w1 w2 w3 e1 e2 e3 e4 z1=>?_
   clear z0
   subst z1
   cases r' with
   |cons q r' =>cases e2
   |nil=>
    rw[List.append_nil] at e1
    subst e1
    refine aF (aO (a9 1 rfl (hRR _ _ ?_)))
    exact⟨by rw[e3];rfl,rfl⟩
noncomputable def D9(x0 x1 x2:Option V):List (Str×Slot):=[("number",.loc x0),("size",.loc x1),("left",.loc x2)]
theorem jN{g:Gx}(P:PF g){n:Int}(h0:1≤n)(h1:n≤20000):Pure g 1 (P.fa 67) [.int n] (.str (c7 n)):=by
 refine aN (ps:=["number"]) (P.i 67 rfl) (P.j 67 rfl) (fun _ _=>rfl) rfl fun c RR hRR hl hcel hcode hpins=>?_
 ·refine(?_:WX _ _ ⟨D9 (some _) none none,_⟩ _ _)
  refine aU (iD (.cons (.cons .nil)) ?_)
  refine bS (a8 (aC (a8 (a9 0 rfl (aA (dA rfl ?_))))))
  refine⟨_,_,rfl,.cons (aR 1 rfl) (.cons (aR 2 rfl) .nil),.cons (aR 2 rfl) (.cons (aR 1 rfl) .nil),?_,rfl⟩
  refine mS ?_ ?_ ?_ ?_
  ·exact fun k σ=>E2x5 (fun(size left:Int)=>k=left.toNat) (fun(size left:Int)=>1≤size) (fun(size left:Int)=>1≤left) (fun(size left:Int)=>26*(size-1)+left=n) (fun(size left:Int)=>σ=⟨D9 (some (.int n)) (some (.int size)) (some (.int left)),[]⟩)
  ·exact n.toNat
  ·exact⟨1,n,rfl,by decide,h0,by exact d9 [] [_] (.eq (.a (.m (.n 26) (.s (.n 1) (.n 1))) .w) .w) qq,rfl⟩
  rintro JJ3 hJJ3 k σ₁ ⟨size,left,rfl,z1,z2,z3,rfl⟩
  refine aK (a9 2 rfl (aC (qA (kb ?_))))
  refine bL (fun _=>?_) (fun _=>?_)
  ·rename_i e1
   have e1:=of_decide_eq_true e1
   refine aU (iD (.cons (.cons .nil)) ?_)
   refine bS (a8 (aD (a9 1 rfl (aC (aJ (a8 (aD (a9 2 rfl ?_))))))))
   refine aC (bN (aA (dA rfl ?_)))
   refine⟨_,_,rfl,.cons (aR 1 rfl) (.cons (aR 2 rfl) .nil),.cons (aR 2 rfl) (.cons (aR 1 rfl) .nil),?_,rfl⟩
   exact aF (hJJ3 _ _ (⟨(left-26).toNat,by exact aI [_,_] [_] (.eq (.c .w) (.s .w (.n 26))) 1 (.eq (.c .x) .w) (.negSucc 0) (.Lt .w .x) 0 qq (Int.toNat_of_nonneg (aB [] [_] (.lt (.n 26) .w) 1 (.le (.n 0) (.s .w (.n 26))) 0 qq e1)) (Int.toNat_of_nonneg (aB [_] [_] (.eq (.c .w) (.s .w (.n 26))) 1 (.le (.n 0) .w) 0 qq (Int.toNat_of_nonneg (aB [] [_] (.lt (.n 26) .w) 1 (.le (.n 0) (.s .w (.n 26))) 0 qq e1)))),size+1,left-26,rfl,by exact aB [] [_] (.le (.n 1) .w) 1 (.le (.n 1) (.a .w (.n 1))) 0 qq z1,by exact aB [] [_] (.lt (.n 26) .w) 1 (.le (.n 1) (.s .w (.n 26))) 0 qq e1,by exact cA [] [_,_,_] (.eq (.a (.m (.n 26) (.s .w (.n 1))) .x) .y) 1 (.eq (.a (.m (.n 26) (.s (.a .w (.n 1)) (.n 1))) (.s .x (.n 26))) .y) qq z3,rfl⟩))
  ·rename_i e1
   have e1:left≤26:=Int.not_lt.mp fun q=>e1 (decide_eq_true q)
   refine aF (aO (aD (aV (aE (aD (a9 2 rfl (aC (bN ?_))))))))
   refine fG (ch:=65+(left-1).toNat) (by exact aB [] [_] (.le (.n 1) .w) 1 (.le (.g (.n 9223372036854775808)) (.s .w (.n 1))) 0 qq z2) (by exact aB [] [_] (.le .w (.n 26)) 1 (.lt (.s .w (.n 1)) (.n 9223372036854775808)) 0 qq e1) ?_ ?_
   ·rw[bA (by exact aB [] [_] (.le (.n 1) .w) 1 (.le (.n 0) (.s .w (.n 1))) 0 qq z2) (by show left-1<(eU.length:Int);rw[o0];exact aB [] [_] (.le .w (.n 26)) 1 (.lt (.s .w (.n 1)) (.c (.n 26))) 0 qq e1)]
    exact pW (left-1).toNat (by exact aI [_] [_] (.le .w (.n 26)) 1 (.eq (.c .w) (.s .w (.n 1))) 1 (.Lt .w (.n 26)) 0 qq e1 (Int.toNat_of_nonneg (aB [] [_] (.le (.n 1) .w) 1 (.le (.n 0) (.s .w (.n 1))) 0 qq z2)))
   refine a9 1 rfl ?_
   refine iH ?_ (fK (show 1≤8 by decide) (by exact eQ [] [_,_,_] (.le .x (.n 20000)) 1 (.le (.n 1) .y) 1 (.eq (.a (.m (.n 26) (.s .w (.n 1))) .y) .x) 1 (.le .w (.n 1048576)) 25 qq h1 z2 z3) (by exact aB [] [_] (.le (.n 1) .w) 1 (.le (.g (.n 1048576)) .w) 0 qq z1))
   refine hRR _ _ ?_;refine⟨?_,rfl⟩
   have q1:(n-1).fdiv 26=size-1:=by rw[Int.fdiv_eq_ediv_of_nonneg _ (by decide)];(clear z1 hJJ3 hcode hpins hcel hl hRR h1 h0;lia -abstractProof)
   have q2:(n-1).fmod 26=left-1:=by rw[Int.fmod_eq_emod_of_nonneg _ (by decide)];(clear z1 hJJ3 hcode hpins hcel hl hRR h1 h0;lia -abstractProof)
   unfold c7
   rw[q1,q2,show size-1+1=size by exact d9 [] [_] (.eq (.a (.s .w (.n 1)) (.n 1)) .w) qq]
noncomputable def dL:List (Nat×List Nat)→Nat→List Nat
 | [],_=>[]
 |(w,x)::r,n=>(List.replicate (n/w) x).flatten++dL r (n % w)
theorem BQ{q1}:dL [] q1=[]:=rfl
theorem BP{w x r n}:dL ((w,x)::r) n=(List.replicate (n/w) x).flatten++dL r (n % w):=rfl
noncomputable def yH(t:List (Int×Str)):List (Nat×List Nat):=t.map fun p=>(p.1.toNat,p.2.cps.toList)
theorem AH(t:List (Int×Str)):∀(n:Nat) (f:List Nat),(∀p∈t,1≤p.1)→j6 t (n:Int) (S f)=S (f++dL (yH t) n):=by
 induction t with
 |nil=>intro n f _;show S f=_;rw[yH,List.map_nil,BQ,List.append_nil]
 |cons q r ih=>
  obtain⟨w,x⟩:=q
  intro n f h
  obtain⟨k,rfl⟩:∃k:Nat,w=(k:Int):=⟨w.toNat,by have:=h (w,x) (List.mem_cons_self ..);simp only at this;exact cA [_] [_] (.eq (.c .w) .w) (.negSucc 0) (.eq .w (.c .w)) qq (Int.toNat_of_nonneg (aB [] [_] (.le (.n 1) .w) 1 (.le (.n 0) .w) 0 qq this))⟩
  have e1:((n:Int)).fmod (k:Int)=((n % k:Nat):Int):=by rw[Int.fmod_eq_emod_of_nonneg _ (by exact aZ [_] [] (.le (.n 0) (.c .w)) 0 qq)];rfl
  have e2:((n:Int)).fdiv (k:Int)=((n/k:Nat):Int):=by rw[Int.fdiv_eq_ediv_of_nonneg _ (by exact aZ [_] [] (.le (.n 0) (.c .w)) 0 qq)];rfl
  have hm:Txt.mul x ((n/k:Nat):Int)=S (List.replicate (n/k) x.cps.toList).flatten:=y5 x.cps.toList ((n/k:Nat):Int)
  rw[tF,e1,e2,hm,Ei,ih _ _ fun p hp=>h p (List.mem_cons_of_mem _ hp)]
  show S (f++(List.replicate (n/k) x.cps.toList).flatten++dL (yH r) (n % k))=S (f++((List.replicate (n/k) x.cps.toList).flatten++dL (yH r) (n % k)))
  rw[List.append_assoc]
noncomputable def dJ:List (Nat×List Nat):=[(900,[67,77]),(500,[68]),(400,[67,68]),(100,[67]),(90,[88,67]),(50,[76]),(40,[88,76]),(10,[88]),(9,[73,88]),(5,[86]),(4,[73,86]),(1,[73])]
theorem r7:yH c9=(1000,[77])::dJ:=by decide+kernel
theorem qM(k a:Nat):(List.replicate k [a]).flatten=List.replicate k a:=by
 induction k with
 |zero=>rfl
 |succ k ih=>rw[List.replicate_succ,List.flatten_cons,ih,List.replicate_succ];rfl
theorem iF(n:Nat):bV (n:Int)=S (List.replicate (n/1000) 77++dL dJ (n % 1000)):=by
 unfold bV
 rw[show("" :Str)=S [] by decide,AH _ _ _ (fun p hp=>(iL p hp).1),r7,BP,qM];rfl
noncomputable def Bl(x:List Nat)(d:Nat):List Nat:=(([[],[97],[97,97],[97,97,97],[97,98],[98],[98,97],[98,97,97],[98,97,97,97],[97,99]]:List (List Nat)).getD d []).map fun ch=>x.getD (ch-97) 0
theorem vB:∀d:Nat,d<10→kC "CDM" d=Bl [67,68,77] d∧kC "XLC" d=Bl [88,76,67] d∧kC "IVX" d=Bl [73,86,88] d:=by decide+kernel
theorem BK:∀r:Nat,r<1000→dL dJ r=Bl [67,68,77] (r/100)++(Bl [88,76,67] (r/10 % 10)++Bl [73,86,88] (r % 10)):=by decide+kernel
theorem l8{n:Int}(h0:0≤n):rR n=bV n:=by
 obtain⟨n,rfl⟩:∃k:Nat,n=(k:Int):=⟨n.toNat,by exact cA [_] [_] (.eq (.c .w) .w) (.negSucc 0) (.eq .w (.c .w)) qq (Int.toNat_of_nonneg (h0))⟩
 rw[iF,BK _ (Nat.mod_lt _ (by decide))]
 unfold rR iT
 have fd:∀k:Nat,0<k→((n:Int)).fdiv (k:Int)=((n/k:Nat):Int):=fun k hk=>by rw[Int.fdiv_eq_ediv_of_nonneg _ (by exact aZ [_] [] (.le (.n 0) (.c .w)) 0 qq)];rfl
 have fm:∀a:Nat,((a:Int)).fmod 10=((a % 10:Nat):Int):=fun a=>by rw[Int.fmod_eq_emod_of_nonneg _ (by exact of_decide_eq_true rfl)];rfl
 rw[show(1000:Int)=((1000:Nat):Int) from rfl,show(100:Int)=((100:Nat):Int) from rfl,fd 1000 (by decide),fd 100 (by decide)]
 rw[show((n:Int)).fdiv 10=((n/10:Nat):Int) from fd 10 (by decide),fm,fm,fm]
 have l10:∀a:Nat,a % 10<10:=fun a=>Nat.mod_lt _ (by decide)
 simp only[List.flatMap_cons,List.flatMap_nil,List.append_nil,Int.toNat_natCast]
 rw[(vB _ (l10 (n/100))).1,(vB _ (l10 (n/10))).2.1,(vB _ (l10 n)).2.2]
 have a1:n/100 % 10=n % 1000/100:=by omega
 have a2:n/10 % 10=n % 1000/10 % 10:=by omega
 have a3:n % 10=n % 1000 % 10:=by(clear a1 l10 fm fd h0;lia -abstractProof)
 rw[a1,a2,a3]
theorem hU{x:Str}(h:x∈dF):x= "D"∨x= "R"∨x= "r"∨x= "A"∨x= "a"∨x= "" :=by
 simpa [dF] using h
theorem mY{n:Int}:bD "D" n=Str.ofString (toString n):=if_pos (by decide)
theorem qJ{n:Int}:bD "" n= "" :=by unfold bD;rw[if_neg (by decide),if_pos (by decide)]
theorem qK{n:Int}:bD "R" n=bV n:=by
 unfold bD;rw[if_neg (by decide),if_neg (by decide)];simp only;rw[if_pos (show tU "R" "A" "R" =true by decide),if_pos (show tU "R" "r" "R" =true by decide)]
theorem mW{n:Int}:bD "r" n=Txt.lower (bV n):=by
 unfold bD;rw[if_neg (by decide),if_neg (by decide)];simp only;rw[if_neg (show¬tU "R" "A" "r" =true by decide),if_pos (show tU "R" "r" "r" =true by decide)]
theorem qL{n:Int}:bD "A" n=c7 n:=by
 unfold bD;rw[if_neg (by decide),if_neg (by decide)];simp only;rw[if_pos (show tU "R" "A" "A" =true by decide),if_neg (show¬tU "R" "r" "A" =true by decide)]
theorem mX{n:Int}:bD "a" n=Txt.lower (c7 n):=by
 unfold bD;rw[if_neg (by decide),if_neg (by decide)];simp only;rw[if_neg (show¬tU "R" "A" "a" =true by decide),if_neg (show¬tU "R" "r" "a" =true by decide)]
noncomputable def GG(x0 x1:Option V):List (Str×Slot):=[("style",.loc x0),("number",.loc x1),("str",.glob),("_law_roman",.glob),("_law_letters",.glob)]
theorem xX{g:Gx}(P:PF g){style:Str}{n:Int}(hs:style∈dF)(h0:1≤n)(h1:n≤20000):Pure g 2 (P.fa 68) [.str style,.int n] (.str (bD style n)):=by
 have hlr:=l8 (n:=n) (by exact aB [] [_] (.le (.n 1) .w) 1 (.le (.n 0) .w) 0 qq h0)
 have hrl:=kZ (n:=n) (by exact aB [] [_] (.le (.n 1) .w) 1 (.le (.n 0) .w) 0 qq h0) h1
 have hll:=gB h0 h1
 refine aN (ps:=["style", "number"]) (P.i 68 rfl) (P.j 68 rfl) (fun _ _ _=>rfl) rfl fun c RR hRR hl hcel hcode hpins=>?_
 ·refine(?_:WX _ _ ⟨GG (some _) (some _),_⟩ _ _)
  rcases hU hs with rfl|rfl|rfl|rfl|rfl|rfl
  ·refine bU (aK (a9 0 rfl (bS (a8 (aE (a8 (aE (aA ?_))))))))
   refine dA rfl (cP (kb (bI (cU (by decide) (aO (iB (aK (a9 0 rfl ?_))))))))
   refine aE (bX (kb (bI (cU (by decide) (aL P.b_str .type 2 rfl (a8 (a9 1 rfl (aA ?_))))))))
   exact lT (kB (by exact aB [] [_] (.le (.n 1) .w) 1 (.le (.g (.n 65536)) .w) 0 qq h0) (by exact aB [] [_] (.le .w (.n 20000)) 1 (.le .w (.n 65536)) 0 qq h1)) (hRR _ _ ⟨by rw[mY],rfl⟩)
  ·refine bU (aK (a9 0 rfl (bS (a8 (aE (a8 (aE (aA ?_))))))))
   refine dA rfl (cP (kb (bI (bK (by decide) (aF (bU (aK (a9 0 rfl ?_))))))))
   refine bS (a8 (aE (a8 (aE (aA (dA rfl (cP (kb ?_))))))))
   refine bI (cU (by decide) (aO (iB (aK (a9 0 rfl (aE (bX (kb ?_))))))))
   refine bI (cU (by decide) (aX (P.i 66 rfl) 3 rfl (a8 (a9 1 rfl (aA ?_)))))
   refine⟨1,_,by exact lv hl,jB P (by exact aB [] [_] (.le (.n 1) .w) 1 (.le (.n 0) .w) 0 qq h0) (by exact aB [] [_] (.le .w (.n 20000)) 1 (.le .w (.n 100000)) 0 qq h1),?_⟩
   exact hRR _ _ (⟨by rw[qK,hlr],rfl⟩)
  ·refine bU (aK (a9 0 rfl (bS (a8 (aE (a8 (aE (aA ?_))))))))
   refine dA rfl (cP (kb (bI (bK (by decide) (aF (bU (aK (a9 0 rfl ?_))))))))
   refine bS (a8 (aE (a8 (aE (aA (dA rfl (cP (kb ?_))))))))
   refine bI (cU (by decide) (aO (iB (aK (a9 0 rfl (aE (bX (kb ?_))))))))
   refine bI (bK (by decide) (aY (aX (P.i 66 rfl) 3 rfl (a8 (a9 1 rfl (aA ?_))))))
   refine⟨1,_,by exact lv hl,jB P (by exact aB [] [_] (.le (.n 1) .w) 1 (.le (.n 0) .w) 0 qq h0) (by exact aB [] [_] (.le .w (.n 20000)) 1 (.le .w (.n 100000)) 0 qq h1),?_⟩
   refine eA kW .builtin (aA ?_)
   exact nG (by rw[hlr];exact aB [_] [] (.Le .w (.n 520000)) 1 (.Le .w (.n 5592405)) 0 qq hrl) fun _=>hRR _ _ ⟨by rw[mW,hlr],rfl⟩
  ·refine bU (aK (a9 0 rfl (bS (a8 (aE (a8 (aE (aA ?_))))))))
   refine dA rfl (cP (kb (bI (bK (by decide) (aF (bU (aK (a9 0 rfl ?_))))))))
   refine bS (a8 (aE (a8 (aE (aA (dA rfl (cP (kb ?_))))))))
   refine bI (bK (by decide) (aF (aO (iB (aK (a9 0 rfl (aE (bX ?_))))))))
   refine kb (bI (cU (by decide) (aX (P.i 67 rfl) 4 rfl (a8 (a9 1 rfl (aA ?_))))))
   refine⟨1,_,by exact lv hl,jN P h0 h1,?_⟩
   exact hRR _ _ (⟨by rw[qL],rfl⟩)
  ·refine bU (aK (a9 0 rfl (bS (a8 (aE (a8 (aE (aA ?_))))))))
   refine dA rfl (cP (kb (bI (bK (by decide) (aF (bU (aK (a9 0 rfl ?_))))))))
   refine bS (a8 (aE (a8 (aE (aA (dA rfl (cP (kb ?_))))))))
   refine bI (bK (by decide) (aF (aO (iB (aK (a9 0 rfl (aE (bX ?_))))))))
   refine kb (bI (bK (by decide) (aY (aX (P.i 67 rfl) 4 rfl (a8 (a9 1 rfl (aA ?_)))))))
   refine⟨1,_,by exact lv hl,jN P h0 h1,?_⟩
   exact eA kW .builtin (aA (nG (by exact aB [_] [] (.Le .w (.n 20000)) 1 (.Le .w (.n 5592405)) 0 qq hll) fun _=>hRR _ _ ⟨by rw[mX],rfl⟩))
  ·refine bU (aK (a9 0 rfl (bS (a8 (aE (a8 (aE (aA ?_))))))))
   refine dA rfl (cP (kb (bI (cU (by decide) (aO (iB (aK (a9 0 rfl ?_))))))))
   exact aE (bX (kb (bI (bK (by decide) (aE (hRR _ _ (⟨by rw[qJ],rfl⟩)))))))
theorem eP:∀(l:List Rg) (o:Option Rg) (i:Int),dK o l i=((l.filter fun r=>decide (r.first≤i)).getLast?).or o
 | [],o,i=>rfl
 |r::l,o,i=>by
  rw[jS,eP l,List.filter_cons]
  by_cases h:r.first≤i
  ·rw[if_pos h,if_pos (decide_eq_true h),List.getLast?_cons]
   cases(l.filter fun r=>decide (r.first≤i)).getLast? <;>rfl
  ·rw[if_neg h,if_neg (by rw[decide_eq_false h];exact Bool.false_ne_true)]
theorem vS.so{r:Rg}(h:vS r):fM r.style:=by
 have:∀x∈dF,∀c∈x.cps.toList,c<0x110000:=by decide+kernel
 exact this _ h.st
noncomputable def Fw(x0 x1:Option V):List (Str×Slot):=[("ranges",.loc x0),("index",.cel x1),("here",.loc none),("str",.glob),("_law_shown",.glob)]
theorem xY{g:Gx}(P:PF g){l:List Rg}(hl50:l.length≤50)(hk:∀r∈l,vS r){i:Int}(h0:0≤i)(h1:i≤100):Pure g 3 (P.fa 70) [.lst (l.map Rg.v),.int i] (.str (d7 l i)):=by
 refine aN (ps:=["ranges", "index"]) (P.i 70 rfl) (P.j 70 rfl) (fun _ _ _=>rfl) rfl fun c RR hRR hl hcel hcode hpins=>?_
 ·refine(?_:WX _ _ ⟨Fw (some _) (some _),_⟩ _ _)
  refine aU (f9 (by exact .loc (.loc (.fre (.skip (.cel)) (.nil)))) (.skip (.skip .here)) ?_)
  refine bH (a9 0 rfl ?_)
  refine⟨_,.lst,G0 l (fun r=>decide (r.first≤i)) (Rg.v) (Rg.v) (R:=(l.filter fun r=>decide (r.first≤i)).map Rg.v) rfl rfl (Nat.le_trans hl50 (by decide)) (fun n hm_ J_ ys hJ_ e ps B=>?_) ?_⟩
  ·refine bE 1 rfl (A7 ?_)
   refine aK (aV (a9 1 rfl (aC (cD (j:=0) (x:= .int n.first) rfl rfl (by decide) (by decide) (a9 2 rfl (yW (kb ?_)))))))
   refine bL (fun _=>?_) (fun _=>?_)
   ·rename_i e7
    refine a9 1 rfl ?_
    rw[if_pos e7] at hJ_;exact hJ_
   ·rename_i e7
    rw[if_neg e7] at hJ_;exact hJ_
  obtain⟨f,hf⟩:∃f,(l.filter fun r=>decide (r.first≤i))=f:=⟨_,rfl⟩
  have hra:dK none l i=f.getLast? :=by rw[eP,hf,Option.or_none]
  have hfm:∀r∈f,r∈l∧r.first≤i:=fun r hr=>by rw[←hf,List.mem_filter] at hr;exact⟨hr.1,of_decide_eq_true hr.2⟩
  have hfl:f.length≤50:=by rw[←hf];exact Nat.le_trans (List.length_filter_le ..) hl50
  rw[hf]
  refine d8 2 rfl (bU (aK (a9 2 rfl (cF (aA (eB rfl (l6 (r:=[]) Ao (fun r hr=>⟨(hk r (hfm r hr).1).so,(hk r (hfm r hr).1).po⟩) (fun _ h=>nomatch h) (kb ?_))))))))
  refine bL (fun _=>?_) (fun _=>?_)
  ·rename_i e7
   have:f=[]:=of_decide_eq_true e7
   refine aO (aL P.b_str .type 3 rfl (a8 (aD (a9 1 rfl (aC (aJ (aA ?_)))))))
   exact lT (kB (by exact aB [] [_] (.le (.n 0) .w) 1 (.le (.g (.n 65536)) (.a .w (.n 1))) 0 qq h0) (by exact aB [] [_] (.le .w (.n 100)) 1 (.le (.a .w (.n 1)) (.n 65536)) 0 qq h1)) (hRR _ _ ⟨by unfold d7;rw[hra,this];rfl,rfl⟩)
  ·rename_i e7
   have hne:f≠[]:=fun q=>e7 (decide_eq_true q)
   have hfp:0<f.length:=List.length_pos_iff.mpr hne
   have hlast:f[f.length-1]? =some (f.getLast hne):=by rw[List.getLast_eq_getElem,List.getElem?_eq_getElem]
   obtain⟨r,hr⟩:∃r,f.getLast hne=r:=⟨_,rfl⟩
   rw[hr] at hlast
   refine aG (hfm r (hr▸List.getLast_mem hne)) fun m1 m2=>?_
   have ok:=hk r m1
   have:=ok.f0;have:=ok.f1;have:=ok.s0;have:=ok.s1;have:=ok.pl
   have it:∀{c' :Cx} {σ:St} {X:Value→St→Prop} {Q:V→St→Prop} {e1 e2:Expr},jD e2→Q r.v σ→iX c' (subscriptTail e1 e2) (.lst (f.map Rg.v)) (.int (-1)) σ X Q:=fun h1 h2=>
    o_item_lst (j:=f.length-1) (by rw[List.length_map,kA (by decide) (by exact aB [_] [] (.Lt (.n 0) .w) 1 (.le (.n 0) (.a (.g (.n 1)) (.c .w))) 0 qq hfp)];congr 1;exact wZ [_,_,_] [] (.eq (.c .w) (.a (.g (.n 1)) (.c .y))) 1 (.Eq (.a .x (.n 1)) .y) (.negSucc 0) (.Eq .w .x) qq (Int.toNat_of_nonneg (aB [_] [] (.Lt (.n 0) .w) 1 (.le (.n 0) (.a (.g (.n 1)) (.c .w))) 0 qq hfp)) (Nat.sub_add_cancel (aB [_,_] [] (.eq (.c .x) (.a (.g (.n 1)) (.c .w))) 1 (.Le (.n 1) .w) 0 qq (Int.toNat_of_nonneg (aB [_] [] (.Lt (.n 0) .w) 1 (.le (.n 0) (.a (.g (.n 1)) (.c .w))) 0 qq hfp))))) (by rw[List.getElem?_map,hlast];rfl) (by decide) (by decide) h2 h1
   refine aF (aO (aD (aV (aV (a9 2 rfl (kJ (aC (bO ?_))))))))
   refine it (by intro _ _;rfl) ?_
   refine aC (cD (j:=2) (x:= .str r.pre) rfl rfl (by decide) (by decide) (aX (P.i 68 rfl) 4 rfl (a8 (aV (aV (a9 2 rfl (kJ (aC ?_))))))))
   refine bO ?_
   refine it (by intro _ _;rfl) ?_
   refine aC (cD (j:=1) (x:= .str r.style) rfl rfl (by decide) (by decide) (a8 (aD (aD (aV (aV (a9 2 rfl (kJ ?_))))))))
   refine aC (bO ?_)
   refine it (by intro _ _;rfl) ?_
   refine aC (cD (j:=3) (x:= .int r.start) rfl rfl (by decide) (by decide) (a9 1 rfl (aJ (aV (aV (a9 2 rfl (kJ (aC ?_))))))))
   refine bO ?_
   refine it (by intro _ _;rfl) ?_
   refine aC (cD (j:=0) (x:= .int r.first) rfl rfl (by decide) (by decide) (bN (aA ?_)))
   refine⟨2,_,by exact lv hl,xX P ok.st (by exact aI [] [_,_,_] (.le .y .x) 1 (.le (.n 1) .w) 1 (.le (.n 1) (.s (.a .w .x) .y)) 0 qq m2 ‹_›) (by exact eQ [] [_,_,_] (.le .x (.n 100)) 1 (.le (.n 0) .y) 1 (.le .w (.n 4000)) 1 (.le (.s (.a .w .x) .y) (.n 20000)) 0 qq h1 ‹_› ‹_›),?_⟩
   have hs:=pM (style:=r.style) (n:=r.start+i-r.first) (by exact aI [] [_,_,_] (.le .y .x) 1 (.le (.n 1) .w) 1 (.le (.n 1) (.s (.a .w .x) .y)) 0 qq m2 ‹_›) (by exact eQ [] [_,_,_] (.le .x (.n 100)) 1 (.le (.n 0) .y) 1 (.le .w (.n 4000)) 1 (.le (.s (.a .w .x) .y) (.n 20000)) 0 qq h1 ‹_› ‹_›)
   refine lP (hRR _ _ ⟨?_,rfl⟩) (show _≤16777216 by exact aI [_,_] [] (.Le .w (.n 10)) 1 (.Le .x (.n 1560000)) 1 (.Le (.a .w .x) (.n 16777216)) 0 qq this hs)
   unfold d7
   rw[hra,List.getLast?_eq_some_getLast hne,hr]
noncomputable def iO:List Str:=["", "", "A-", "1", "x", "é ", "€😀", "\x7f"]
noncomputable def BJ:List Int:=[1,1,2,9,25,26,51,399,3998]
structure mI(l:List Rg):Prop where
 len:l.length≤4
 ok:∀r∈l,vS r
 pre:∀r∈l,r.pre∈iO
 chk:chk (-1) l=true
theorem CH(l:List Rg):∀(last:Int) (x:Rg),chk last l=true→(∀r∈l,r.first<x.first)→last<x.first→x.style∈dF→1≤x.start→chk last (l++[x])=true:=by
 induction l with
 |nil=>
  intro last x _ _ h1 h2 h3
  rw[List.nil_append,s7,Gb,Bool.and_true,Bool.not_eq_true',gO,decide_eq_false (by exact aB [] [_,_] (.lt .x .w) 1 (.nle .w .x) 0 qq h1),decide_eq_false (by exact aB [] [_] (.le (.n 1) .w) 1 (.nlt .w (.n 1)) 0 qq h3)]
  have:(dF.any fun y=>y==x.style)=true:=List.any_eq_true.mpr ⟨x.style,h2,beq_self_eq_true _⟩
  rw[this];rfl
 |cons r l ih=>
  intro last x h ha h1 h2 h3
  rw[s7,Bool.and_eq_true] at h
  rw[List.cons_append,s7,h.1,Bool.true_and]
  exact ih r.first x h.2 (fun y hy=>ha y (List.mem_cons_of_mem _ hy)) (ha r (List.mem_cons_self ..)) h2 h3
theorem oG:∀x∈iO,x.length≤10∧∀c∈x.cps.toList,c<0x110000:=by decide+kernel
theorem AF:∀x∈BJ,1≤x∧x≤4000:=by decide
noncomputable def Ew(x0 x1 x2 x3 x4 x5:Option V):List (Str×Slot):=[("pen",.loc x0),("found",.loc x1),("first",.loc x2),("turn",.loc x3),("style",.loc x4),("prefix",.loc x5),("_law_pick",.glob),("range",.glob),("_law_draw",.glob)]
theorem vK{g:Gx}(P:PF g){a:Addr}{b:Int}{cells:List Int}{spot left:Int}(ok:eN b cells spot left)(hb:b≤1000):
  aS g 3 (.val (.ref (P.fa 69))) [.val (.ref a)] [(a,dW cells spot left)] cK (fun v own=>∃l,v= .lst (l.map Rg.v)∧mI l∧pX a (b+20) own):=by
 refine aN (ps:=["pen"]) (P.i 69 rfl) (P.j 69 rfl) (fun _ _=>rfl) rfl fun c RR hRR hl hcel hcode hpins=>?_
 ·refine(?_:WX _ _ ⟨Ew (some _) none none none none none,_⟩ _ _)
  refine aU (iD (.cons (.cons .nil)) ?_)
  refine bS (a8 ?_)
  refine iA (aA ⟨by decide,fun fo hfo=>?_⟩)
  refine a8 (bM (P.i 64 rfl) 6 rfl (a8 (a9 0 rfl (a8 (cF (a8 (aC (a8 ?_))))))))
  refine aC (a8 (aC (a8 (aC (aA (eB rfl (aA (eW.pickI (by exact lv hl) (.keep (.take .nil)) (lF P (xs:=V.ints [0,0,1,2]) ok (by exact aB [] [_] (.le .w (.n 1000)) 1 (.le .w (.n 10000)) 0 qq hb) (by decide) (by decide)) fun k0 cells spot left hk0 ok=>?_))))))))
  have hk0:0≤k0∧k0≤2:=by
   have:∀k∈([0,0,1,2]:List Int),0≤k∧k≤2:=by decide
   exact this k0 hk0
  refine aA (dA rfl ?_)
  refine⟨_,_,rfl,.cons (aR 1 rfl) (.cons (aR 2 rfl) .nil),.cons (aR 2 rfl) (.cons (aR 1 rfl) .nil),?_,rfl⟩
  refine iJ ?_ ?_ ?_ ?_
  ·exact fun items σ=>zZ (fun l (first:Int) cells spot left w1 w2 w3=>items.length+l.length≤4) (fun l (first:Int) cells spot left w1 w2 w3=>mI l) (fun l (first:Int) cells spot left w1 w2 w3=>0≤first) (fun l (first:Int) cells spot left w1 w2 w3=>first≤2+4*l.length) (fun l (first:Int) cells spot left w1 w2 w3=>(∀r∈l,r.first<first)) (fun l (first:Int) cells spot left w1 w2 w3=>eN (b+2+4*l.length) cells spot left) (fun l (first:Int) cells spot left w1 w2 w3=>σ=⟨Ew (some (.val (.ref a))) (some (.val (.ref fo))) (some (.int first)) w1 w2 w3,[(a,dW cells spot left),(fo,.lst (l.map Rg.v))]⟩)
  ·refine bH (aL P.b_range .type 7 rfl (a8 (bM (P.i 63 rfl) 8 rfl (a8 (a9 0 rfl (a8 (aC (aA ?_))))))))
   refine eW.drawI (by exact lv hl) (.take .nil) (gV P ok (by exact aB [] [_] (.le .w (.n 1000)) 1 (.le (.a .w (.n 1)) (.n 10000)) 0 qq hb) (by decide) (by decide)) fun d cells spot left d0 d1 ok=>aA ?_
   obtain⟨j,rfl⟩:∃j:Nat,d=(j:Int):=⟨d.toNat,by exact cA [_] [_] (.eq (.c .w) .w) (.negSucc 0) (.eq .w (.c .w)) qq (Int.toNat_of_nonneg (d0))⟩
   refine fC ?_
   refine⟨gH 0 j,?_,[],k0,cells,spot,left,none,none,none,by rw[iK];show j+0≤4;exact aB [_] [] (.lt (.c .w) (.n 5)) 1 (.Le (.a .w (.n 0)) (.n 4)) 0 qq d1,⟨by decide,fun r h=>(nomatch h),fun r h=>(nomatch h),rfl⟩,hk0.1,by show k0≤2+4*0;exact aB [] [_] (.le .w (.n 2)) 1 (.le .w (.a (.n 2) (.m (.n 4) (.n 0)))) 0 qq hk0.2,fun r h=>(nomatch h),⟨ok.n,ok.s0,by have:=ok.s1;show spot≤b+2+4*0;exact aB [] [_,_] (.le .w (.a (.a .x (.n 1)) (.n 1))) 1 (.le .w (.a (.a .x (.n 2)) (.m (.n 4) (.n 0)))) 0 qq this⟩,rfl⟩
   have:=cX (a:=0) (n:=j) (by exact of_decide_eq_true rfl) (by exact aB [_] [] (.lt (.c .w) (.n 5)) 1 (.Le .w (.n 10000)) 0 qq d1);rwa [Nat.zero_add] at this
  ·intro JJ1 hJJ1 v r σ₁ z0
   refine zZ.e z0 fun l first cells spot left w1 w2 w3 e1 e2 e3 e4 e5 ok z1=>?_
   clear z0
   subst z1
   intro ps
   rw[List.length_cons] at e1
   have:=e2.len
   refine bE 3 rfl (aM (bM (c:=(c.of g).pin ps) (P.i 64 rfl) 6 rfl (a8 (a9 0 rfl (a8 (cF (a8 (aE ?_))))))))
   refine a8 (aE (a8 (aE (a8 (aE (a8 (aE (a8 ?_))))))))
   refine aE (aA (eB rfl (aA (eW.pickS (show 2≤c.lvl by exact lv hl) (.take .nil) (lF (g:=g) P (xs:=V.strs dF) ok (by exact aI [_] [_] (.le .w (.n 1000)) 1 (.Le .w (.n 4)) 4 (.le (.a (.a .w (.n 2)) (.m (.n 4) (.c .w))) (.n 10000)) 0 qq hb this) (by decide) (by decide)) fun style cells spot left hst ok=>?_))))
   refine d8 4 rfl ?_;refine aM ?_
   refine bM (c:=(c.of g).pin ps) (P.i 64 rfl) 6 rfl (a8 (a9 0 rfl (a8 (cF (a8 (aE (a8 (aE ?_))))))))
   refine a8 (aE (a8 (aE (a8 (aE (a8 (aE (a8 ?_))))))))
   refine aE (a8 (aE (aA (eB rfl (aA (eW.pickS (show 2≤c.lvl by exact lv hl) (.take .nil) (lF (g:=g) P (xs:=V.strs iO) ok (by exact aI [_] [_] (.le .w (.n 1000)) 1 (.Le .w (.n 4)) 4 (.le (.a (.a (.a .w (.n 2)) (.m (.n 4) (.c .w))) (.n 1)) (.n 10000)) 0 qq hb this) (by decide) (by decide)) fun pre cells spot left hpre ok=>d8 5 rfl (gZ ?_)))))))
   refine aY (a9 1 rfl (eA (fW (.skip (.here))) .builtin (a8 (bS (a8 (a9 2 rfl (a8 (a9 4 rfl ?_))))))))
   refine a8 (a9 5 rfl (a8 (bM (c:=(c.of g).pin ps) (P.i 64 rfl) 6 rfl (a8 (a9 0 rfl (a8 (cF (a8 ?_))))))))
   refine aC (a8 (aC (a8 (aC (a8 (aC (a8 (aC ?_))))))))
   refine a8 (aC (a8 (aC (a8 (aC (a8 (aC (aA ?_))))))))
   refine eB rfl (aA (eW.pickI (show 2≤c.lvl by exact lv hl) (.take .nil) (lF (g:=g) P (xs:=V.ints BJ) ok (by exact aI [_] [_] (.le .w (.n 1000)) 1 (.Le .w (.n 4)) 4 (.le (.a (.a (.a (.a .w (.n 2)) (.m (.n 4) (.c .w))) (.n 1)) (.n 1)) (.n 10000)) 0 qq hb this) (by decide) (by decide)) fun start cells spot left hstart ok=>aA (dA rfl (aA ?_))))
   refine iW (.skip .here) (by rw[List.length_map];exact Nat.le_trans e2.len (by decide)) ?_
   refine Aj (aM (aD (aD (a9 2 rfl (aC (aJ (bM (c:=(c.of g).pin ps) (P.i 63 rfl) 8 rfl (a8 ?_))))))))
   refine a9 0 rfl (a8 (aC (aA (eW.drawI (show 1≤c.lvl by exact lv hl) (.take .nil) (gV (g:=g) P ok (by exact aI [_] [_] (.le .w (.n 1000)) 1 (.Le .w (.n 4)) 4 (.le (.a (.a (.a (.a (.a .w (.n 2)) (.m (.n 4) (.c .w))) (.n 1)) (.n 1)) (.n 1)) (.n 10000)) 0 qq hb this) (by decide) (by decide)) fun d cells spot left d0 d1 ok=>aJ (d8 2 rfl (aF (hJJ1 _ _ ?_)))))))
   have q1:=oG pre hpre
   have q2:=AF start hstart
   have hlen:(l++[(⟨first,style,pre,start⟩:Rg)]).length=l.length+1:=by rw[List.length_append];rfl
   refine⟨l++[⟨first,style,pre,start⟩],first+1+d,cells,spot,left,_,some (.str style),some (.str pre),by rw[hlen];exact aB [_,_] [] (.Le (.a (.a .w (.n 1)) .x) (.n 4)) 1 (.Le (.a .w (.a .x (.n 1))) (.n 4)) 0 qq e1,⟨by rw[hlen];exact aB [_,_] [] (.Le (.a (.a .x (.n 1)) .w) (.n 4)) 1 (.Le (.a .w (.n 1)) (.n 4)) 0 qq e1,fun r hr=>?_,fun r hr=>?_,CH l (-1) _ e2.chk e5 (show -1<first by exact aB [] [_] (.le (.n 0) .w) 1 (.lt (.g (.n 1)) .w) 0 qq e3) hst q2.1⟩,by exact aI [] [_,_] (.le (.n 0) .w) 1 (.le (.n 0) .x) 1 (.le (.n 0) (.a (.a .w (.n 1)) .x)) 0 qq e3 d0,by rw[hlen];exact aI [_] [_,_] (.le .w (.a (.n 2) (.m (.n 4) (.c .w)))) 1 (.lt .x (.n 4)) 1 (.le (.a (.a .w (.n 1)) .x) (.a (.n 2) (.m (.n 4) (.c (.a .w (.n 1)))))) 0 qq e4 d1,fun r hr=>?_,⟨ok.n,ok.s0,by have:=ok.s1;rw[hlen];exact aB [_] [_,_] (.le .w (.a (.a (.a (.a (.a (.a .x (.n 2)) (.m (.n 4) (.c .w))) (.n 1)) (.n 1)) (.n 1)) (.n 1))) 1 (.le .w (.a (.a .x (.n 2)) (.m (.n 4) (.c (.a .w (.n 1)))))) 0 qq this⟩,by rw[List.map_append];rfl⟩
   ·rcases List.mem_append.mp hr with hr|hr
    ·exact e2.ok r hr
    ·rw[List.mem_singleton.mp hr];exact⟨e3,show first≤100 by exact aI [_] [_] (.le .w (.a (.n 2) (.m (.n 4) (.c .w)))) 1 (.Le .w (.n 4)) 4 (.le .w (.n 100)) 0 qq e4 this,q2.1,q2.2,q1.1,q1.2,hst⟩
   ·rcases List.mem_append.mp hr with hr|hr
    ·exact e2.pre r hr
    ·rw[List.mem_singleton.mp hr];exact hpre
   ·rcases List.mem_append.mp hr with hr|hr
    ·have:=e5 r hr;exact aI [] [_,_,_] (.le (.n 0) .y) 1 (.lt .w .x) 1 (.lt .w (.a (.a .x (.n 1)) .y)) 0 qq d0 this
    ·rw[List.mem_singleton.mp hr];show first<_;exact aB [] [_,_] (.le (.n 0) .x) 1 (.lt .w (.a (.a .w (.n 1)) .x)) 0 qq d0
  ·intro σ₁ z0
   refine zZ.e z0 fun l first cells spot left w1 w2 w3 e1 e2 e3 e4 e5 ok z1=>?_
   clear z0
   subst z1
   have:=e2.len
   refine aF ?_;refine aO ?_
   refine WE.frz (a9 1 rfl ?_)
   exact⟨fo,_,_,_,_,_,hfo,.skip .here,.lst,.same,.here,hRR _ _ ⟨l,rfl,e2,cells,spot,left,⟨ok.n,ok.s0,by have:=ok.s1;exact aI [_] [_,_] (.Le .w (.n 4)) 4 (.le .w (.a (.a .x (.n 2)) (.m (.n 4) (.c .w)))) 1 (.le .w (.a .x (.n 20))) 0 qq ‹_› this⟩,rfl⟩⟩
noncomputable def jA:List (Nat×List Nat)→List Nat→Nat
 | [],_=>0
 |(w,x)::r,l=>gU x l.length l*w+jA r (l.drop (gU x l.length l*x.length))
theorem FH{q1}:jA [] q1=0:=rfl
theorem Be{w x r l}:jA ((w,x)::r) l=gU x l.length l*w+jA r (l.drop (gU x l.length l*x.length)):=rfl
theorem xF:∀(t:List (Int×Str)) (l:List Nat),(∀p∈t,1≤p.1)→dI t l=(jA (yH t) l:Int)
 | [],l,_=>rfl
 |(w,x)::r,l,h=>by
  obtain⟨k,rfl⟩:∃k:Nat,w=(k:Int):=⟨w.toNat,by have:=h (w,x) (List.mem_cons_self ..);simp only at this;lia -abstractProof⟩
  rw[nL,xF r _ fun p hp=>h p (List.mem_cons_of_mem _ hp),len_list x]
  show _=((gU x.cps.toList l.length l*k+jA (yH r) (l.drop (gU x.cps.toList l.length l*x.cps.toList.length)):Nat):Int)
  rw[Int.natCast_add,Int.natCast_mul]
theorem Cw:∀(a n:Nat) (x:List Nat),x.head?≠some 77→a≤n→gU [77] n (List.replicate a 77++x)=a
 |0,0,x,_,_=>rfl
 |0,n+1,x,h,_=>by
  rw[mO,if_neg]
  intro e
  cases x with
  |nil=>simp at e
  |cons b x=>simp at e;exact h (by rw[e];rfl)
 |a+1,0,x,_,hn=>absurd hn (by exact aZ [_] [] (.Nle (.a .w (.n 1)) (.n 0)) 0 qq)
 |a+1,n+1,x,h,hn=>by
  rw[mO,if_pos (by simp[List.replicate_succ])]
  rw[List.replicate_succ,List.cons_append]
  show gU [77] n (List.replicate a 77++x)+1=a+1
  rw[Cw a n x h (by exact aB [_,_] [] (.Le (.a .w (.n 1)) (.a .x (.n 1))) 1 (.Le .w .x) 0 qq hn)]
theorem AJ:∀r:Nat,r<1000→(dL dJ r).head?≠some 77:=by decide+kernel
theorem wN:∀r:Nat,r<1000→jA dJ (dL dJ r)=r:=by decide+kernel
theorem nK{n:Nat}:dI c9 (bV (n:Int)).cps.toList=(n:Int):=by
 rw[xF _ _ (fun p hp=>(iL p hp).1),iF,r7]
 have hr:=Nat.mod_lt n (show 0<1000 by decide)
 have e:gU [77] (List.replicate (n/1000) 77++dL dJ (n % 1000)).length (List.replicate (n/1000) 77++dL dJ (n % 1000))=n/1000:=Cw _ _ _ (AJ _ hr) (by rw[List.length_append,List.length_replicate];exact aZ [_,_] [] (.Le .w (.a .w .x)) 0 qq)
 show((jA ((1000,[77])::dJ) (List.replicate (n/1000) 77++dL dJ (n % 1000)):Nat):Int)=_
 rw[Be,e]
 have d:(List.replicate (n/1000) 77++dL dJ (n % 1000)).drop (n/1000*([77]:List Nat).length)=dL dJ (n % 1000):=by
  rw[List.drop_append,List.drop_of_length_le (by simp),List.length_replicate];simp
 rw[d,wN _ hr]
 lia -abstractProof
theorem gQ{n:Int}(h:1≤n):cC (bV n)= .int n:=by
 obtain⟨k,rfl⟩:∃k:Nat,n=(k:Int):=⟨n.toNat,by lia -abstractProof⟩
 unfold cC
 rw[nK,if_pos ⟨by exact aB [_] [] (.le (.n 1) (.c .w)) 1 (.lt (.n 0) (.c .w)) 0 qq h,rfl⟩]
noncomputable def fJ(c:Nat):Int:=if c=73 then 1 else if c=86 then 5 else if c=88 then 10 else if c=76 then 50 else if c=67 then 100 else if c=68 then 500 else 1000
noncomputable def iC:List Nat→Int
 | []=>0
 |c::_=>fJ c
noncomputable def fU:List Nat→Int
 | []=>0
 |c::l=>(if fJ c<iC l then 0-fJ c else fJ c)+fU l
theorem GT:fU []=0:=rfl
theorem uG{c l}:fU (c::l)=(if fJ c<iC l then 0-fJ c else fJ c)+fU l:=rfl
theorem w0(c:Nat):1≤fJ c∧fJ c≤1000:=by
 unfold fJ
 split;decide;split;decide;split;decide;split;decide;split;decide;split;decide;decide
theorem A8:∀(a:Nat) (x:List Nat),fU (List.replicate a 77++x)=1000*a+fU x
 |0,x=>by simp
 |a+1,x=>by
  have w:fJ 77=1000:=by decide
  have:iC (List.replicate a 77++x)≤1000:=by
   cases h:List.replicate a 77++x with
   |nil=>exact show(0:Int)≤1000 by decide
   |cons b y=>exact(w0 b).2
  rw[List.replicate_succ,List.cons_append,uG,A8 a x,w,if_neg (by exact aB [] [_] (.le .w (.n 1000)) 1 (.nlt (.n 1000) .w) 0 qq this)]
  exact d9 [_] [_] (.eq (.a (.n 1000) (.a (.m (.n 1000) (.c .w)) .w)) (.a (.m (.n 1000) (.c (.a .w (.n 1)))) .w)) qq
theorem BR:∀r:Nat,r<1000→fU (dL dJ r)=(r:Int):=by decide+kernel
theorem AE{n:Nat}:fU (bV (n:Int)).cps.toList=(n:Int):=by
 rw[iF]
 show fU (List.replicate (n/1000) 77++dL dJ (n % 1000))=_
 rw[A8,BR _ (Nat.mod_lt n (by decide))]
 lia -abstractProof
noncomputable def nU(l:List Nat):V:=if 0<fU l∧bV (fU l)=S l then .int (fU l) else .none
theorem BX(l:List Nat):cC (S l)=nU l:=by
 unfold cC nU
 show(if 0<dI c9 l∧bV (dI c9 l)=S l then V.int (dI c9 l) else V.none)=_
 by_cases h:0<dI c9 l∧bV (dI c9 l)=S l
 ·obtain⟨k,hk⟩:∃k:Nat,dI c9 l=(k:Int):=⟨(dI c9 l).toNat,by lia -abstractProof⟩
  rw[hk] at h
  have e:fU l=(k:Int):=by have:=AE (n:=k);rw[h.2] at this;exact this
  rw[hk,if_pos h,e,if_pos h]
 ·rw[if_neg h]
  refine(if_neg fun q=>h ?_).symm
  obtain⟨k,hk⟩:∃k:Nat,fU l=(k:Int):=⟨(fU l).toNat,by lia -abstractProof⟩
  rw[hk] at q
  have e:dI c9 l=(k:Int):=by have:=nK (n:=k);rw[q.2] at this;exact this
  rw[e];exact q
theorem Eh(a k:Nat)(n:Int)(h:n=(k:Int)):Txt.mul ⟨#[a]⟩ n=S (List.replicate k a):=by
 rw[h]
 have:=y5 [a] (k:Int)
 rw[Int.toNat_natCast,qM] at this
 exact this
theorem j9{n:Int}(h:1≤n):cJ (fun(d k:Nat)=>d<26) (fun(d k:Nat)=>(n:Int)=26*k+d+1) (fun(d k:Nat)=>c7 n=S (List.replicate (k+1) (65+d))):=by
 obtain⟨m,rfl⟩:∃m:Nat,n=(m:Int)+1:=⟨(n-1).toNat,by lia -abstractProof⟩
 refine⟨m % 26,m/26,Nat.mod_lt _ (by decide),by lia -abstractProof,?_⟩
 have e1:((m:Int)+1-1).fmod 26=((m % 26:Nat):Int):=by rw[show(m:Int)+1-1=(m:Int) by exact d9 [_] [] (.eq (.s (.a (.c .w) (.n 1)) (.n 1)) (.c .w)) qq,Int.fmod_eq_emod_of_nonneg _ (by decide)];rfl
 have e2:((m:Int)+1-1).fdiv 26=((m/26:Nat):Int):=by rw[show(m:Int)+1-1=(m:Int) by exact d9 [_] [] (.eq (.s (.a (.c .w) (.n 1)) (.n 1)) (.c .w)) qq,Int.fdiv_eq_ediv_of_nonneg _ (by decide)];rfl
 unfold c7
 rw[e1,e2,Int.toNat_natCast]
 exact Eh _ _ _ (by exact d9 [_] [] (.eq (.a (.c .w) (.n 1)) (.c (.a .w (.n 1)))) qq)
theorem kR{d k:Nat}(hd:d<26):bB (S (List.replicate (k+1) (65+d)))= .int (26*(k:Int)+d+1):=by
 have h0:(S (List.replicate (k+1) (65+d))).cps[0]? =some (65+d):=by simp[List.replicate_succ]
 have hl:(S (List.replicate (k+1) (65+d))).length=k+1:=by rw[iZ,List.length_replicate]
 unfold bB
 rw[h0,hl]
 simp only
 rw[if_pos ⟨by exact aZ [_] [] (.Le (.n 65) (.a (.n 65) .w)) 0 qq,by exact aB [_] [] (.Lt .w (.n 26)) 1 (.Lt (.a (.n 65) .w) (.n 91)) 0 qq hd,(Eh (65+d) (k+1) _ rfl).symm⟩]
 congr 1
 lia -abstractProof
theorem fQ{n:Int}(h:1≤n):bB (c7 n)= .int n:=by
 refine cJ.e (j9 h) fun d k h1 h2 h3=>?_
 rw[h3,kR h1,h2]
theorem BS:∀r:Nat,r<1000→(dL dJ r).length≤12:=by decide+kernel
theorem m9{n:Int}(h0:0≤n)(h1:n≤20000):(bV n).length≤32:=by
 obtain⟨k,rfl⟩:∃k:Nat,n=(k:Int):=⟨n.toNat,by exact cA [_] [_] (.eq (.c .w) .w) (.negSucc 0) (.eq .w (.c .w)) qq (Int.toNat_of_nonneg (h0))⟩
 rw[iF,iZ,List.length_append,List.length_replicate]
 have:=BS (k % 1000) (Nat.mod_lt _ (by decide))
 exact eQ [_,_,_] [] (.le (.c .y) (.n 20000)) 1 (.Le .x (.n 12)) 1000 (.Le (.r .w 1000) .y) 1 (.Le (.a .w .x) (.n 32)) 999 qq h1 this (Nat.div_mul_le_self _ _)
noncomputable def BN:List Str:=["I", "V", "X", "L", "C", "D", "M", "I", "X"]
noncomputable def A9:List Nat:=[73,86,88,76,67,68,77]
theorem BM:∀x∈BN,∃c∈A9,x=lW c:=by decide+kernel
noncomputable def EJ:List (Str×V):=[("I",.int 1),("V",.int 5),("X",.int 10),("L",.int 50),("C",.int 100),("D",.int 500),("M",.int 1000)]
theorem AB{c:Nat}(h:c∈A9):aT (i0 [] EJ) (lW c)=some (.int (fJ c)):=by
 simp only[A9,List.mem_cons,List.not_mem_nil,or_false] at h
 rcases h with rfl|rfl|rfl|rfl|rfl|rfl|rfl<;>rfl
noncomputable def jE(l:List Nat):List Int:=l.map fJ++[0]
theorem t6(l:List Nat)(i:Nat):(jE l)[i]? =if i<l.length then l[i]?.map fJ else if i=l.length then some 0 else none:=by
 unfold jE
 by_cases h:i<l.length
 ·rw[if_pos h,List.getElem?_append_left (by rw[List.length_map];exact h),List.getElem?_map]
 ·rw[if_neg h,List.getElem?_append_right (by rw[List.length_map];exact aB [_,_] [] (.Nlt .x .w) 1 (.Le .w .x) 0 qq h),List.length_map]
  by_cases h2:i=l.length
  ·subst h2;rw[Nat.sub_self,if_pos rfl];rfl
  ·rw[if_neg h2,List.getElem?_eq_none];show 1≤_;lia -abstractProof
noncomputable def rC(l:List Nat)(i:Nat):Int:=if(fJ (l.getD i 0)<iC (l.drop (i+1))) then 0-fJ (l.getD i 0) else fJ (l.getD i 0)
theorem tB:∀l:List Nat,fU l=((List.range l.length).map (rC l)).sum
 | []=>rfl
 |c::l=>by
  rw[uG,tB l,List.length_cons,List.range_succ_eq_map,List.map_cons,List.sum_cons,List.map_map]
  rfl
theorem vZ{l:List Nat}{i:Nat}(h:i<l.length):(jE l)[i+1]? =some (iC (l.drop (i+1))):=by
 rw[t6]
 by_cases h2:i+1<l.length
 ·rw[if_pos h2,List.drop_eq_getElem_cons h2,List.getElem?_eq_getElem h2];rfl
 ·rw[if_neg h2,if_pos (by exact Nat.le_antisymm (aB [_,_] [] (.Lt .w .x) 1 (.Le (.a .w (.n 1)) .x) 0 qq h) (aB [_,_] [] (.Nlt (.a .x (.n 1)) .w) 1 (.Le .w (.a .x (.n 1))) 0 qq h2)),List.drop_eq_nil_of_le (by exact aB [_,_] [] (.Nlt (.a .x (.n 1)) .w) 1 (.Le .w (.a .x (.n 1))) 0 qq h2)];rfl
theorem wF:∀l:List Nat,fU l≤1000*l.length
 | []=>by decide
 |c::l=>by
  have:=wF l
  have:=w0 c
  rw[uG,List.length_cons]
  split<;>(first|exact aI [_] [_,_] (.le .x (.m (.n 1000) (.c .w))) 1 (.le (.n 1) .w) 1 (.le (.a (.s (.n 0) .w) .x) (.m (.n 1000) (.c (.a .w (.n 1))))) 0 qq ‹_› this.1|exact aI [_] [_,_] (.le .x (.m (.n 1000) (.c .w))) 1 (.le .w (.n 1000)) 1 (.le (.a .w .x) (.m (.n 1000) (.c (.a .w (.n 1))))) 0 qq ‹_› this.2)
theorem kT{text:Str}{ch:Nat}(h:text.cps[0]? =some ch)(h2:¬(65≤ch∧ch<91∧text=Txt.mul ⟨#[ch]⟩ text.length)):bB text= .none:=by
 unfold bB;rw[h];exact if_neg h2
theorem HQ:bB "" = .none:=rfl
theorem HP:bB "AB" = .none:=kT (ch:=65) rfl (by decide)
theorem HO:bB "a" = .none:=kT (ch:=97) rfl (by decide)
theorem C4{c:Cx}{σ:St}{X:Value→St→Prop}{Q:V→St→Prop}(cs:List Nat)(h:Q (.bool true) σ):iX c (compareOp .Eq) (nU cs) (nU cs) σ X Q:=by
 unfold nU
 split
 ·refine fA ?_
  rw[beq_self_eq_true];exact h
 ·exact o_eq .none .none rfl rfl rfl h
noncomputable def GF(x0:Option V):List (Str×Slot):=[("pen",.cel x0),("number",.loc none),("small",.loc none),("text",.loc none),("worths",.cel none),("total",.loc none),("due",.loc none),("_law_draw",.glob),("roman",.glob),("_law_roman",.glob),("read_roman",.glob),("letters",.glob),("_law_letters",.glob),("read_letters",.glob),("range",.glob),("sum",.glob),("len",.glob)]
theorem nX{g:Gx}(P:PF g){a:Addr}{b:Int}{cells:List Int}{spot left:Int}(ok:eN b cells spot left)(hb:b≤1000):
  aS g 3 (.val (.ref (P.fa 72))) [.val (.ref a)] [(a,dW cells spot left)] cK (fun v own=>v= .bool true∧pX a (b+20) own):=by
 refine aN (ps:=["pen"]) (P.i 72 rfl) (P.j 72 rfl) (fun _ _=>rfl) rfl fun c RR hRR hl hcel hcode hpins=>?_
 ·refine(?_:WX _ _ ⟨GF (some _),_⟩ _ _)
  refine aM ?_
  refine aD ?_
  refine aC ?_
  refine bM (P.i 63 rfl) 7 rfl ?_
  refine a8 ?_
  refine a9 0 rfl ?_
  refine a8 ?_
  refine aC ?_
  refine aA ?_
  refine eW.drawI (by exact lv hl) (.take .nil) (gV P ok (by exact aB [] [_] (.le .w (.n 1000)) 1 (.le .w (.n 10000)) 0 (.refl true) hb) (by decide) (by decide)) fun d cells spot left d0 d1 ok=>?_
  refine aJ ?_
  refine d8 1 rfl ?_
  refine bU ?_
  refine cZ ?_
  refine fO ?_
  refine aK ?_
  refine aX (P.i 40 rfl) 8 rfl ?_
  refine a8 ?_
  refine a9 1 rfl ?_
  refine aA ?_
  refine⟨1,_,by exact lv hl,qV (P.i 40 rfl) (P.j 40 rfl) P.g_ROMAN (by exact aB [] [_] (.le (.n 0) .w) 1 (.le (.n 0) (.a (.n 1) .w)) 0 (.refl true) d0) (by exact aB [] [_] (.lt .w (.n 4200)) 1 (.le (.a (.n 1) .w) (.n 1000000000)) 0 (.refl true) d1),?_⟩
  refine aX (P.i 66 rfl) 9 rfl ?_
  refine a8 ?_
  refine a9 1 rfl ?_
  refine aA ?_
  refine⟨1,_,by exact lv hl,jB P (by exact aB [] [_] (.le (.n 0) .w) 1 (.le (.n 0) (.a (.n 1) .w)) 0 (.refl true) d0) (by exact aB [] [_] (.lt .w (.n 4200)) 1 (.le (.a (.n 1) .w) (.n 100000)) 0 (.refl true) d1),?_⟩
  rw[l8 (by exact aB [] [_] (.le (.n 0) .w) 1 (.le (.n 0) (.a (.n 1) .w)) 0 (.refl true) d0)]
  refine iP ?_
  refine kb ?_
  refine bI ?_
  refine bK (bne_self_eq_false _) ?_
  have hrl:=m9 (n:=1+d) (by exact aB [] [_] (.le (.n 0) .w) 1 (.le (.n 0) (.a (.n 1) .w)) 0 (.refl true) d0) (by exact aB [] [_] (.lt .w (.n 4200)) 1 (.le (.a (.n 1) .w) (.n 20000)) 0 (.refl true) d1)
  refine fO ?_
  refine aK ?_
  refine aX (P.i 41 rfl) 10 rfl ?_
  refine a8 ?_
  refine aX (P.i 40 rfl) 8 rfl ?_
  refine a8 ?_
  refine a9 1 rfl ?_
  refine aA ?_
  refine⟨1,_,by exact lv hl,qV (P.i 40 rfl) (P.j 40 rfl) P.g_ROMAN (by exact aB [] [_] (.le (.n 0) .w) 1 (.le (.n 0) (.a (.n 1) .w)) 0 (.refl true) d0) (by exact aB [] [_] (.lt .w (.n 4200)) 1 (.le (.a (.n 1) .w) (.n 1000000000)) 0 (.refl true) d1),?_⟩
  refine aA ?_
  refine⟨2,_,by exact lv hl,kL P (by exact aB [_] [] (.Le .w (.n 32)) 1 (.Le .w (.n 100000)) 0 (.refl true) hrl),?_⟩
  rw[gQ (by exact aB [] [_] (.le (.n 0) .w) 1 (.le (.n 1) (.a (.n 1) .w)) 0 (.refl true) d0)]
  refine a9 1 rfl ?_
  refine l4 ?_
  refine kb ?_
  refine bI ?_
  refine bK (bne_self_eq_false _) ?_
  refine eF ?_
  refine gK rfl ?_
  refine aF ?_
  refine aM ?_
  refine aD ?_
  refine aC ?_
  refine bM (P.i 63 rfl) 7 rfl ?_
  refine a8 ?_
  refine a9 0 rfl ?_
  refine a8 ?_
  refine aC ?_
  refine aA ?_
  refine eW.drawI (by exact lv hl) (.take .nil) (gV P ok (by exact aB [] [_] (.le .w (.n 1000)) 1 (.le (.a .w (.n 1)) (.n 10000)) 0 (.refl true) hb) (by decide) (by decide)) fun d cells spot left d0 d1 ok=>?_
  have hll:=gB (n:=1+d) (by exact aB [] [_] (.le (.n 0) .w) 1 (.le (.n 1) (.a (.n 1) .w)) 0 (.refl true) d0) (by exact aB [] [_] (.lt .w (.n 120)) 1 (.le (.a (.n 1) .w) (.n 20000)) 0 (.refl true) d1)
  refine aJ ?_
  refine d8 2 rfl ?_
  refine bU ?_
  refine cZ ?_
  refine fO ?_
  refine aK ?_
  refine aX (P.i 42 rfl) 11 rfl ?_
  refine a8 ?_
  refine a9 2 rfl ?_
  refine aA ?_
  refine⟨1,_,by exact lv hl,oX (P.i 42 rfl) (P.j 42 rfl) P.g_ALPHABET (by exact aB [] [_] (.le (.n 0) .w) 1 (.le (.n 1) (.a (.n 1) .w)) 0 (.refl true) d0) (by exact aB [] [_] (.lt .w (.n 120)) 1 (.le (.a (.n 1) .w) (.n 20000)) 0 (.refl true) d1),?_⟩
  refine aX (P.i 67 rfl) 12 rfl ?_
  refine a8 ?_
  refine a9 2 rfl ?_
  refine aA ?_
  refine⟨1,_,by exact lv hl,jN P (by exact aB [] [_] (.le (.n 0) .w) 1 (.le (.n 1) (.a (.n 1) .w)) 0 (.refl true) d0) (by exact aB [] [_] (.lt .w (.n 120)) 1 (.le (.a (.n 1) .w) (.n 20000)) 0 (.refl true) d1),?_⟩
  refine iP ?_
  refine kb ?_
  refine bI ?_
  refine bK (bne_self_eq_false _) ?_
  refine fO ?_
  refine aK ?_
  refine aX (P.i 43 rfl) 13 rfl ?_
  refine a8 ?_
  refine aX (P.i 42 rfl) 11 rfl ?_
  refine a8 ?_
  refine a9 2 rfl ?_
  refine aA ?_
  refine⟨1,_,by exact lv hl,oX (P.i 42 rfl) (P.j 42 rfl) P.g_ALPHABET (by exact aB [] [_] (.le (.n 0) .w) 1 (.le (.n 1) (.a (.n 1) .w)) 0 (.refl true) d0) (by exact aB [] [_] (.lt .w (.n 120)) 1 (.le (.a (.n 1) .w) (.n 20000)) 0 (.refl true) d1),?_⟩
  refine aA ?_
  refine⟨1,_,by exact lv hl,eS (P.i 43 rfl) (P.j 43 rfl) P.g_ALPHABET P.b_len (by exact aB [_] [] (.Le .w (.n 20000)) 1 (.Le .w (.n 100000)) 0 (.refl true) hll),?_⟩
  rw[fQ (by exact aB [] [_] (.le (.n 0) .w) 1 (.le (.n 1) (.a (.n 1) .w)) 0 (.refl true) d0)]
  refine a9 2 rfl ?_
  refine l4 ?_
  refine kb ?_
  refine bI ?_
  refine bK (bne_self_eq_false _) ?_
  refine eF ?_
  refine gK rfl ?_
  refine aF ?_
  refine aM ?_
  refine aY ?_
  refine aE ?_
  refine eA uC .builtin ?_
  refine a8 ?_
  refine dZ (by exact .loc (.loc (.glob (.fre (.cel) (.nil))))) ?_
  refine bH ?_
  refine aL P.b_range .type 14 rfl ?_
  refine a8 ?_
  refine bM (P.i 63 rfl) 7 rfl ?_
  refine a8 ?_
  refine a9 0 rfl ?_
  refine a8 ?_
  refine aC ?_
  refine aA ?_
  refine eW.drawI (by exact lv hl) (.take .nil) (gV P ok (by exact aB [] [_] (.le .w (.n 1000)) 1 (.le (.a (.a .w (.n 1)) (.n 1)) (.n 10000)) 0 (.refl true) hb) (by decide) (by decide)) fun j cells spot left j0 j1 ok=>?_
  obtain⟨j,rfl⟩:∃k:Nat,j=(k:Int):=⟨j.toNat,by exact cA [_] [_] (.eq (.c .w) .w) (.negSucc 0) (.eq .w (.c .w)) (.refl true) (Int.toNat_of_nonneg (j0))⟩
  refine aA ?_
  refine fC ?_
  refine⟨gH 0 j,by have:=cX (a:=0) (n:=j) (by exact of_decide_eq_true rfl) (by exact aB [_] [] (.lt (.c .w) (.n 6)) 1 (.Le .w (.n 10000)) 0 (.refl true) j1);rwa [Nat.zero_add] at this,by rw[iK];exact Nat.le_trans (show j≤6 by exact aB [_] [] (.lt (.c .w) (.n 6)) 1 (.Le .w (.n 6)) 0 (.refl true) j1) (by decide),rfl,fun r ys own=>A3 (fun(cs:List Nat) k cells spot left=>r=gH cs.length k) (fun(cs:List Nat) k cells spot left=>cs.length+k=j) (fun(cs:List Nat) k cells spot left=>(∀x∈cs,x∈A9)) (fun(cs:List Nat) k cells spot left=>ys=V.strs (cs.map lW)) (fun(cs:List Nat) k cells spot left=>eN (b+3+cs.length) cells spot left) (fun(cs:List Nat) k cells spot left=>own=[(a,dW cells spot left)]),⟨[],j,cells,spot,left,rfl,Nat.zero_add j,fun x h=>(nomatch h),rfl,⟨ok.n,ok.s0,by have:=ok.s1;show spot≤b+3+0;exact aB [] [_,_] (.le .w (.a (.a (.a .x (.n 1)) (.n 1)) (.n 1))) 1 (.le .w (.a (.a .x (.n 3)) (.n 0))) 0 (.refl true) this⟩,rfl⟩,?_,?_⟩
  ·intro JJ1 hJJ1 x r ys own z0
   refine A3.e z0 fun cs k cells spot left e1 e2 e3 z1 ok z2=>?_
   clear z0
   subst z1
   subst z2
   intro e ps B
   cases k with
   |zero=>cases e1
   |succ k=>
    cases e1
    refine bE 1 rfl (f6 ?_)
    refine bM (c:=(c.of g).at e ps B) (P.i 64 rfl) 2 rfl ?_
    refine a8 ?_
    refine a9 3 rfl ?_
    refine a8 ?_
    refine cF ?_
    refine a8 ?_
    refine aE ?_
    refine a8 ?_
    refine aE ?_
    refine a8 ?_
    refine aE ?_
    refine a8 ?_
    refine aE ?_
    refine a8 ?_
    refine aE ?_
    refine a8 ?_
    refine aE ?_
    refine a8 ?_
    refine aE ?_
    refine a8 ?_
    refine aE ?_
    refine a8 ?_
    refine aE ?_
    refine aA ?_
    refine eB rfl ?_
    refine aA ?_
    refine eW.pickS (show 2≤c.lvl by exact lv hl) (.take .nil) (lF (g:=g) P (xs:=V.strs BN) ok (by exact eQ [_,_,_] [_] (.le .w (.n 1000)) 1 (.lt (.c .x) (.n 6)) 1 (.Eq (.a .w (.a .y (.n 1))) .x) 1 (.le (.a (.a .w (.n 3)) (.c .w)) (.n 10000)) 0 (.refl true) hb j1 e2) (by decide) (by decide)) fun x cells spot left hx ok=>?_
    refine aH (BM x hx) fun ch hch z2=>?_
    subst z2
    have hl:(cs++[ch]).length=cs.length+1:=by rw[List.length_append];rfl
    refine hJJ1 _ _ _ ?_;refine⟨cs++[ch],k,cells,spot,left,by rw[hl];rfl,by exact wZ [_,_,_,_] [] (.Eq (.a .z (.a .x (.n 1))) .y) 1 (.Eq .w (.a .z (.n 1))) 1 (.Eq (.a .w .x) .y) (.refl true) e2 hl,fun x hx=>?_,by rw[List.map_append];unfold V.strs;rw[List.map_append];rfl,⟨ok.n,ok.s0,by have:=ok.s1;rw[hl];exact aB [_] [_,_] (.le .w (.a (.a (.a .x (.n 3)) (.c .w)) (.n 1))) 1 (.le .w (.a (.a .x (.n 3)) (.c (.a .w (.n 1))))) 0 (.refl true) this⟩,rfl⟩
    rcases List.mem_append.mp hx with hx|hx
    ·exact e3 x hx
    ·rw[List.mem_singleton.mp hx];exact hch
  intro ys own z0
  refine A3.e z0 fun cs k cells spot left e1 e2 e3 z1 ok z2=>?_
  clear z0
  subst z1
  subst z2
  obtain rfl:k=0:=by cases k with
   |zero=>rfl
   |succ k=>cases e1
  have hcl:cs.length≤5:=by exact aI [_,_] [] (.lt (.c .x) (.n 6)) 1 (.Eq (.a .w (.n 0)) .x) 1 (.Le .w (.n 5)) 0 (.refl true) j1 e2
  refine aA ?_
  refine Ch (by rw[uF,List.length_map];show cs.length+cs.length*0≤_;exact aB [_] [] (.Le .w (.n 5)) 1 (.Le (.a .w (.r .w 0)) (.n 16777216)) 0 (.refl true) hcl) ?_
  rw[s3]
  refine d8 3 rfl ?_
  refine aM ?_
  refine aD ?_
  refine dZ (by exact .loc (.loc (.nil))) ?_
  refine bH ?_
  refine a9 3 rfl ?_
  refine⟨_,.str,by rw[List.length_map];exact Nat.le_trans hcl (by decide),rfl,fun r ys own=>cW (fun x y=>cs=x++y) (fun x y=>r=y.map (fun n=>V.str (lW n))) (fun x y=>ys=V.ints (x.map fJ)) (fun x y=>own=[(a,dW cells spot left)]),⟨[],cs,rfl,rfl,rfl,rfl⟩,?_,?_⟩
  ·intro JJ2 hJJ2 x r ys own z0
   refine cW.e z0 fun p q f1 f2 f3 z1=>?_
   clear z0
   subst z1
   intro e ps B
   cases q with
   |nil=>cases f2
   |cons n q=>
    cases f2
    refine bE 1 rfl (f6 ?_)
    refine fV ?_ ?_
    rfl
    refine aV ?_
    refine fF ?_ ?_ ?_ ?_ ?_
    rotate_left
    rfl
    rfl
    simp
    decide
    intro D o
    refine bC ?_
    refine aE ?_
    refine kp ?_
    refine aC ?_
    refine bC ?_
    refine aE ?_
    refine kp ?_
    refine aC ?_
    refine bC ?_
    refine aE ?_
    refine kp ?_
    refine aC ?_
    refine bC ?_
    refine aE ?_
    refine kp ?_
    refine aC ?_
    refine bC ?_
    refine aE ?_
    refine kp ?_
    refine aC ?_
    refine bC ?_
    refine aE ?_
    refine kp ?_
    refine aC ?_
    refine bC ?_
    refine aE ?_
    refine kp ?_
    refine aC ?_
    refine cV ?_
    refine a9 1 rfl ?_
    refine iQ (AB (e3 n (by rw[f1];simp))) ?_
    refine hJJ2 _ _ _ ?_;exact⟨p++[n],q,by rw[List.append_assoc];exact f1,rfl,by rw[f3,List.map_append,gM];rfl,rfl⟩
  intro ys own z0
  refine cW.e z0 fun p q f1 f2 z1 z2=>?_
  clear z0
  subst z1
  subst z2
  obtain rfl:q=[]:=by cases q with
   |nil=>rfl
   |cons n q=>cases f2
  obtain rfl:cs=p:=by rw[f1,List.append_nil]
  refine cF ?_
  refine a8 ?_
  refine aC ?_
  refine aA ?_
  refine eB rfl ?_
  refine jW (ys:=V.ints [0]) ?_ (by rw[cQ,List.length_map];exact Nat.le_trans (Nat.add_le_add_right hcl 1) (by decide))
  rw[←gM,show cs.map fJ++[0]=jE cs from rfl]
  have hwl:(V.ints (jE cs)).length=cs.length+1:=by rw[cQ];unfold jE;rw[List.length_append,List.length_map];rfl
  refine d8 4 rfl ?_
  refine aM ?_
  refine aL P.b_sum .builtin 15 rfl ?_
  refine a8 ?_
  refine dZ (by exact .loc (.loc (.fre (.skip (.skip (.skip (.skip (.cel))))) (.nil)))) ?_
  refine bH ?_
  refine aL P.b_range .type 14 rfl ?_
  refine a8 ?_
  refine aL P.b_len .builtin 16 rfl ?_
  refine a8 ?_
  refine a9 3 rfl ?_
  refine aA ?_
  refine fY (by rw[iZ];exact Nat.le_trans hcl (by decide)) ?_
  rw[iZ]
  refine aA ?_
  refine fC ?_
  refine⟨gH 0 cs.length,by have:=cX (a:=0) (n:=cs.length) (by exact of_decide_eq_true rfl) (by exact aB [_] [] (.Le .w (.n 5)) 1 (.Le .w (.n 10000)) 0 (.refl true) hcl);rwa [Nat.zero_add] at this,by rw[iK];exact Nat.le_trans hcl (by decide),rfl,fun r ys own=>cW (fun i k=>i+k=cs.length) (fun i k=>r=gH i k) (fun i k=>ys=V.ints ((List.range i).map (rC cs))) (fun i k=>own=[(a,dW cells spot left)]),⟨0,cs.length,Nat.zero_add _,rfl,rfl,rfl⟩,?_,?_⟩
  ·intro JJ3 hJJ3 x r ys own z0
   refine cW.e z0 fun i k f1 f2 f3 z1=>?_
   clear z0
   subst z1
   intro e ps B
   cases k with
   |zero=>cases f2
   |succ k=>
    cases f2
    have hi:i<cs.length:=by exact aB [_,_,_] [] (.Eq (.a .w (.a .y (.n 1))) .x) 1 (.Lt .w .x) 0 (.refl true) f1
    have w1:(V.ints (jE cs))[i]? =some (.int (fJ (cs.getD i 0))):=by
     unfold V.ints
     rw[List.getElem?_map,t6,if_pos hi,List.getD_eq_getElem?_getD,List.getElem?_eq_getElem hi];rfl
    have w2:(V.ints (jE cs))[i+1]? =some (.int (iC (cs.drop (i+1)))):=by
     unfold V.ints
     rw[List.getElem?_map,vZ hi];rfl
    have s1:seqIndex? (i:Int) (V.ints (jE cs)).length=some i:=by rw[hwl,bA (by exact aZ [_] [] (.le (.n 0) (.c .w)) 0 (.refl true)) (by exact aB [_,_] [] (.Lt .w .x) 1 (.lt (.c .w) (.c (.a .x (.n 1)))) 0 (.refl true) hi)];rfl
    have s2:seqIndex? ((i:Int)+1) (V.ints (jE cs)).length=some (i+1):=by rw[hwl,show(i:Int)+1=((i+1:Nat):Int) from rfl,bA (by exact aZ [_] [] (.le (.n 0) (.c (.a .w (.n 1)))) 0 (.refl true)) (by exact aB [_,_] [] (.Lt .w .x) 1 (.lt (.c (.a .w (.n 1))) (.c (.a .x (.n 1)))) 0 (.refl true) hi)];rfl
    have next:∀v,v= .int (rC cs i)→V.ints ((List.range i).map (rC cs))++[v]=V.ints ((List.range (i+1)).map (rC cs)):=fun v hv=>by
     rw[hv,List.range_succ,List.map_append,gM];rfl
    refine bE 1 rfl (f6 ?_)
    refine fV ?_ ?_
    rfl
    refine iB ?_
    refine aK ?_
    refine aV ?_
    refine a9 2 rfl ?_
    refine a9 1 rfl ?_
    refine o_item_lst s1 w1 (by exact aZ [_] [] (.le (.g (.n 9223372036854775808)) (.c .w)) 0 (.refl true)) (by exact aI [_,_] [] (.Le .x (.n 5)) 1 (.Lt .w .x) 1 (.lt (.c .w) (.n 9223372036854775808)) 0 (.refl true) hcl hi) ?_
    refine aV ?_
    refine a9 2 rfl ?_
    refine aD ?_
    refine a9 1 rfl ?_
    refine aC ?_
    refine aJ ?_
    refine o_item_lst s2 w2 (by exact aZ [_] [] (.le (.g (.n 9223372036854775808)) (.a (.c .w) (.n 1))) 0 (.refl true)) (by exact aI [_,_] [] (.Le .x (.n 5)) 1 (.Lt .w .x) 1 (.lt (.a (.c .w) (.n 1)) (.n 9223372036854775808)) 0 (.refl true) hcl hi) ?_
    refine q9 ?_
    refine kb ?_
    refine bL (fun _=>?_) (fun _=>?_)
    ·rename_i h
     refine aD ?_
     refine aC ?_
     refine aV ?_
     refine a9 2 rfl ?_
     refine a9 1 rfl ?_
     refine o_item_lst s1 w1 (by exact aZ [_] [] (.le (.g (.n 9223372036854775808)) (.c .w)) 0 (.refl true)) (by exact aI [_,_] [] (.Le .x (.n 5)) 1 (.Lt .w .x) 1 (.lt (.c .w) (.n 9223372036854775808)) 0 (.refl true) hcl hi) ?_
     refine bN ?_
     refine hJJ3 _ _ _ ?_
     exact⟨i+1,k,by exact cA [_,_,_] [] (.Eq (.a .w (.a .x (.n 1))) .y) 1 (.Eq (.a (.a .w (.n 1)) .x) .y) (.refl true) f1,rfl,by rw[f3];exact next _ (by unfold rC;rw[if_pos (of_decide_eq_true h)]),rfl⟩
    ·rename_i h
     refine aV ?_
     refine a9 2 rfl ?_
     refine a9 1 rfl ?_
     refine o_item_lst s1 w1 (by exact aZ [_] [] (.le (.g (.n 9223372036854775808)) (.c .w)) 0 (.refl true)) (by exact aI [_,_] [] (.Le .x (.n 5)) 1 (.Lt .w .x) 1 (.lt (.c .w) (.n 9223372036854775808)) 0 (.refl true) hcl hi) ?_
     refine hJJ3 _ _ _ ?_;exact⟨i+1,k,by exact cA [_,_,_] [] (.Eq (.a .w (.a .x (.n 1))) .y) 1 (.Eq (.a (.a .w (.n 1)) .x) .y) (.refl true) f1,rfl,by rw[f3];exact next _ (by unfold rC;rw[if_neg fun q=>h (decide_eq_true q)]),rfl⟩
  intro ys own z0
  refine cW.e z0 fun i k f1 f2 z1 z2=>?_
  clear z0
  subst z1
  subst z2
  obtain rfl:k=0:=by cases k with
   |zero=>rfl
   |succ k=>cases f2
  obtain rfl:i=cs.length:=by exact cA [_,_] [] (.Eq (.a .w (.n 0)) .x) 1 (.Eq .w .x) (.refl true) f1
  refine aA ?_
  refine E9 ?_
  rw[←tB]
  have hsb:fU cs≤5000:=by have:=wF cs;exact aI [_] [_] (.Le .w (.n 5)) 1000 (.le .w (.m (.n 1000) (.c .w))) 1 (.le .w (.n 5000)) 0 (.refl true) hcl this
  refine d8 5 rfl ?_;refine aM ?_
  refine WE.join (nU cs) ?_ ?_
  ·refine iB ?_
   refine cZ ?_
   refine eG ?_
   refine aK ?_
   refine a9 5 rfl ?_
   refine aC ?_
   refine qA ?_
   refine kb ?_
   refine bL (fun _=>?_) (fun _=>?_)
   ·rename_i h1
    refine eG ?_
    refine aK ?_
    refine aX (P.i 66 rfl) 9 rfl ?_
    refine a8 ?_
    refine a9 5 rfl ?_
    refine aA ?_
    refine⟨1,_,by exact lv hl,jB P (by have:=of_decide_eq_true h1;exact aB [] [_] (.lt (.n 0) .w) 1 (.le (.n 0) .w) 0 (.refl true) this) (by exact aB [] [_] (.le .w (.n 5000)) 1 (.le .w (.n 100000)) 0 (.refl true) hsb),?_⟩
    rw[l8 (by have:=of_decide_eq_true h1;exact aB [] [_] (.lt (.n 0) .w) 1 (.le (.n 0) .w) 0 (.refl true) this)]
    refine a9 3 rfl ?_
    refine bX ?_
    refine kb ?_
    refine bL (fun _=>?_) (fun _=>?_)
    ·rename_i h2;refine dQ ?_;refine oM rfl ?_;refine a9 5 rfl ?_;exact⟨by unfold nU;rw[if_pos ⟨of_decide_eq_true h1,beq_iff_eq.mp h2⟩],rfl⟩
    ·rename_i h2;refine mN rfl ?_;refine cE ?_;exact⟨by unfold nU;rw[if_neg fun q=>h2 (beq_iff_eq.mpr q.2)],rfl⟩
   ·rename_i h1
    refine mN rfl ?_
    refine cE ?_
    exact⟨by unfold nU;rw[if_neg fun q=>h1 (decide_eq_true q.1)],rfl⟩
  refine d8 6 rfl ?_;refine aO ?_
  refine Aq ?_
  refine nQ ?_
  refine aX (P.i 41 rfl) 10 rfl ?_
  refine a8 ?_
  refine a9 3 rfl ?_
  refine aA ?_
  refine⟨2,_,by exact lv hl,kL P (by rw[iZ];exact aB [_] [] (.Le .w (.n 5)) 1 (.Le .w (.n 100000)) 0 (.refl true) hcl),?_⟩
  rw[BX]
  refine a9 6 rfl ?_
  refine C4 cs ?_
  refine⟨_,rfl,?_⟩
  refine cU rfl ?_
  refine Aq ?_
  refine nQ ?_
  refine aX (P.i 43 rfl) 13 rfl ?_
  refine a8 ?_
  refine aE ?_
  refine aA ?_
  refine⟨1,_,by exact lv hl,eS (P.i 43 rfl) (P.j 43 rfl) P.g_ALPHABET P.b_len (by decide),?_⟩
  rw[HQ]
  refine cE ?_
  refine dM ?_
  refine⟨_,rfl,?_⟩
  refine cU rfl ?_
  refine Aq ?_
  refine nQ ?_
  refine aX (P.i 43 rfl) 13 rfl ?_
  refine a8 ?_
  refine aE ?_
  refine aA ?_
  refine⟨1,_,by exact lv hl,eS (P.i 43 rfl) (P.j 43 rfl) P.g_ALPHABET P.b_len (by decide),?_⟩
  rw[HP]
  refine cE ?_
  refine dM ?_
  refine⟨_,rfl,?_⟩
  refine cU rfl ?_
  refine CB ?_
  refine nQ ?_
  refine aX (P.i 43 rfl) 13 rfl ?_
  refine a8 ?_
  refine aE ?_
  refine aA ?_
  refine⟨1,_,by exact lv hl,eS (P.i 43 rfl) (P.j 43 rfl) P.g_ALPHABET P.b_len (by decide),?_⟩
  rw[HO]
  refine cE ?_
  refine dM ?_
  refine hRR _ _ ?_
  exact⟨rfl,cells,spot,left,⟨ok.n,ok.s0,by have:=ok.s1;exact aI [_] [_,_] (.Le .w (.n 5)) 1 (.le .w (.a (.a .x (.n 3)) (.c .w))) 1 (.le .w (.a .x (.n 20))) 0 (.refl true) hcl this⟩,rfl⟩
theorem mG{g:Gx}(P:PF g)(E:PE g){f:V}{own:List (Addr×OV)}{XC:XO}{n:Nat}{R:List (Addr×OV)→Prop}
  (hc:vX g f) (hf:aS g n f [] own XC (fun _ _=>False)) (hx:∀cls own',XC cls own'→cls= .ref E.tf∧R own'):
  aS g (n+1) (.val (.ref (P.fa 73))) [f] own cK (fun v own' =>v= .bool true∧R own'):=by
 refine aN (ps:=["ask"]) (P.i 73 rfl) (P.j 73 rfl) (fun _ _=>rfl) rfl fun c RR hRR hl hcel hcode hpins=>?_
 ·refine(?_:WX _ _ ⟨[("ask",.loc (some _)),("TreeFault",.glob)],_⟩ _ _)
  refine aU (FP (X' :=fun cls σ=>cls= .ref E.tf∧qE 1 σ.env=some (Str.ofString "TreeFault")∧R σ.own) E.exc E.g_TreeFault 1 rfl (fun b=>?_) fun cls σ' ⟨h1,h2,h3⟩=>⟨h1,h2,hRR _ _ ⟨rfl,h3⟩⟩)
  refine gZ (e_call (a9 0 rfl ?_))
  refine⟨hc,aA ?_⟩
  refine pS (XC:=XC) cT.all (Nat.le_of_eq hl.symm) hf (fun x own' _ hq=>hq.elim) (fun cls own' hq=>?_)
  refine aG (hx cls own' hq) fun h1 h2=>?_
  exact⟨h1,rfl,by rw[List.append_nil];exact h2⟩
theorem rF{l:List (Int×V)}:Int.fdiv ((cO l).length:Int) 2=l.length:=by
 rw[iE,Int.fdiv_eq_ediv_of_nonneg _ (by decide)];lia -abstractProof
noncomputable def Ev(x0:Option V):List (Str×Slot):=[("node",.loc x0),("max",.glob),("len",.glob)]
theorem vC{g:Gx}(P:PF g){l:List (Int×V)}(hz:l.length≤1000):Pure g 1 (P.fa 74) [c6 l] (.int l.length):=by
 refine aN (ps:=["node"]) (P.i 74 rfl) (P.j 74 rfl) (fun _ _=>rfl) rfl fun c RR hRR hl hcel hcode hpins=>?_
 ·refine(?_:WX _ _ ⟨Ev (some _),_⟩ _ _)
  refine bU (aK (aE (a9 0 rfl (wU (kb (bI (bK rfl (aF ?_))))))))
  refine aO (aD (aL P.b_len .builtin 2 rfl (a8 (aV (a9 0 rfl (aE (iQ (x:= .lst (cO l)) rfl (aA ?_))))))))
  refine bP (by rw[iE];exact Nat.le_trans (Nat.mul_le_mul_left 2 hz) (by decide)) ?_
  refine aC (cL (by decide) (PyProof.noPylong_small (by decide)) ?_)
  rw[rF]
  refine hRR _ _ ?_;exact⟨rfl,rfl⟩
theorem DV{g:Gx}(P:PF g){l:List (Int×V)}{w:Int}{D:Addr}(hz:l.length≤4)(hw:w=2∨w=3∨w=4):
  aS g 2 (.val (.ref (P.fa 74))) [.val (.ref D)] [(D,.dct (f8 l w))] cK (fun v own=>(∃k:Int,v= .int k∧k≤w)∧own=[(D,.dct (f8 l w))]):=by
 refine aN (ps:=["node"]) (P.i 74 rfl) (P.j 74 rfl) (fun _ _=>rfl) rfl fun c RR hRR hl hcel hcode hpins=>?_
 ·refine(?_:WX _ _ ⟨Ev (some _),_⟩ _ _)
  refine bU (aK (aE (a9 0 rfl ?_)))
  unfold f8
  split
  ·refine lO .here (kb (bI (bK rfl (aF (aO (aD (aL P.b_len .builtin 2 rfl (a8 ?_))))))))
   refine aV (a9 0 rfl (aE (j7 (x:= .lst (cO l)) .here rfl (aA ?_))))
   refine bP (by rw[iE];exact Nat.le_trans (Nat.mul_le_mul_left 2 hz) (by decide)) ?_
   refine aC (cL (by decide) (PyProof.noPylong_small (by decide)) ?_)
   rw[rF]
   rename_i h
   refine hRR _ _ ?_;exact⟨⟨_,rfl,h⟩,by unfold f8;rw[if_pos h]⟩
  ·refine lO .here (kb (bI (cU rfl (aO (aL P.b_max .builtin 1 rfl (a8 (aD ?_)))))))
   rename_i h
   refine cF (a8 (aL P.b_len .builtin 2 rfl (a8 (aV (a9 0 rfl (aE (j7 .here rfl (aA ?_))))))))
   refine bP (Nat.le_of_ble_eq_true rfl) (aA (eB rfl (dZ (by exact .loc (.loc (.glob (.nil)))) (bH (aV (a9 0 rfl (aE (j7 .here rfl ?_))))))))
   refine⟨_,.lst,by exact Nat.le_of_ble_eq_true rfl,rfl,fun r ys own=>(∃k:Nat,k≤2∧r=([c6 (l.take 2),c6 (l.drop 2)]:List V).drop k∧ys=V.ints (([((l.take 2).length:Int),(l.drop 2).length]:List Int).take k))∧own=[(D,.dct [("Kids",.lst [c6 (l.take 2),c6 (l.drop 2)])])],⟨⟨0,by decide,rfl,rfl⟩,rfl⟩,?_,?_⟩
   ·intro JJ1 hJJ1 x r ys own z0
    refine aG z0 fun z1 z2=>?_
    clear z0
    refine dT z1 fun k hk f1 f2=>?_
    clear z1
    subst z2
    intro e ps B
    obtain⟨m,hm,rfl,hv⟩:∃m:List (Int×V),m.length≤1000∧x=c6 m∧∀v,v=V.int m.length→∃k:Nat,k≤2∧r=([c6 (l.take 2),c6 (l.drop 2)]:List V).drop k∧ys++[v]=V.ints (([((l.take 2).length:Int),(l.drop 2).length]:List Int).take k):=by
     rcases k with _|_|_|k
     ·cases f1
      exact⟨_,by rw[List.length_take];exact aB [_] [] (.Le .w (.n 2)) 1 (.Le .w (.n 1000)) 0 qq (Nat.min_le_left _ _),rfl,fun v hv=>⟨1,by decide,rfl,by rw[hv,f2];rfl⟩⟩
     ·cases f1
      exact⟨_,by rw[List.length_drop];exact aI [_,_] [] (.Le .x (.n 4)) 1 (.Le .w .x) 1 (.Le .w (.n 1000)) 0 qq hz (Nat.sub_le _ _),rfl,fun v hv=>⟨2,by decide,rfl,by rw[hv,f2];rfl⟩⟩
     ·cases f1
     ·(clear f2 f1 hJJ1 h hcode hpins hcel hl hRR hw hz;lia -abstractProof)
    refine bE 1 rfl (f6 ?_)
    refine aX (c:=(c.of g).at e ps B) (P.i 74 rfl) 2 rfl (a8 (a9 1 rfl (aA ?_)))
    refine⟨1,_,show 1≤c.lvl by exact lv hl,vC P hm,?_⟩
    refine hJJ1 _ _ _ ?_;exact⟨hv _ rfl,rfl⟩
   intro ys own z0
   refine aG z0 fun z1 z2=>?_
   clear z0
   refine dT z1 fun k hk f1 f2=>?_
   clear z1
   subst z2
   obtain rfl:k=2:=by
    rcases k with _|_|_|k
    ·cases f1
    ·cases f1
    ·rfl
    ·exact(aB [_] [] (.Le (.a (.a (.a .w (.n 1)) (.n 1)) (.n 1)) (.n 2)) 1 (.ff) 0 qq hk).elim
   subst f2
   refine jW (ys:=V.ints _) ?_ (Nat.le_of_ble_eq_true rfl)
   refine aA (G2 (ns:=[2,((l.take 2).length:Int),(l.drop 2).length]) (Nat.le_of_ble_eq_true rfl) fun M hM _=>?_)
   refine hRR _ _ ?_;refine⟨⟨_,rfl,?_⟩,by unfold f8;rw[if_neg (by assumption)]⟩
   rw[List.length_take,List.length_drop] at hM
   simp only[List.mem_cons,List.not_mem_nil,or_false] at hM
   (clear f1 hk hcode hpins hcel hl hRR;lia -abstractProof)
theorem wP:∀x∈iO,S (iM x.cps.toList)=x:=by decide+kernel
theorem yI:∀x∈dF,(dF.any (·==x))=true:=by decide+kernel
section
variable {g:Gx}{O:PO g}
theorem FY{w p:Str}{n:Int}:aT (bJ O w p n) "S" =if w= "" then none else some (jX O w):=by
 unfold bJ putIf
 by_cases h1:w= "" <;>by_cases h2:p= "" <;>by_cases h3:n=1<;>simp[h1,h2,h3]<;>rfl
theorem FZ{w p:Str}{n:Int}:aT (bJ O w p n) "P" =if p= "" then none else some (sO O (aQ p.cps.toList)):=by
 unfold bJ putIf
 by_cases h1:w= "" <;>by_cases h2:p= "" <;>by_cases h3:n=1<;>simp[h1,h2,h3]<;>rfl
theorem F8{w p:Str}{n:Int}:aT (bJ O w p n) "St" =if n=1 then none else some (.int n):=by
 unfold bJ putIf
 by_cases h1:w= "" <;>by_cases h2:p= "" <;>by_cases h3:n=1<;>simp[h1,h2,h3]<;>rfl
theorem BY{t:List (Int×V)}{x:V}{w p:Str}{n:Int}(hx:Fe O t x (.dct (bJ O w p n)))(hw:w∈dF)(hp:p∈iO):Rd O t x w true (some p) (some n):=by
 refine⟨.inl ⟨_,if w= "" then .none else jX O w,if p= "" then .none else sO O (aQ p.cps.toList),if n=1 then .none else .int n,hx,?_,?_,?_,?_,?_,?_⟩⟩
 ·rw[FY];split
  ·exact .plain .none
  ·exact .plain .nm
 ·split
  ·rename_i h;subst h;exact .none
  ·rw[←yI w hw];exact .nm
 ·rw[FZ];split
  ·exact .plain .none
  ·exact .plain .st
 ·split
  ·rename_i h;subst h;exact .none
  ·have:=Gj.st (O:=O) (l:=p.cps.toList) (by have:=(oG p hp).1;rw[←len_list];exact aB [_] [] (.Le .w (.n 10)) 1 (.Le .w (.n 1000)) 0 qq this) (oG p hp).2
   rw[wP p hp] at this
   exact this
 ·rw[F8];split
  ·exact .plain .none
  ·exact .plain .int
 ·split
  ·rename_i h;subst h;exact .none
  ·exact .int
end
section
variable {g:Gx}{O:PO g}
noncomputable def DK(x:V)(r:Rg):It:=⟨r.first,x,r.style,true,some r.pre,some r.start⟩
noncomputable def DZ(O:PO g)(t:List (Int×V))(d:List (Str×V))(l:List Rg):Prop:=
 E2x6 (fun its n=>n≤3) (fun its n=>zX O t d (dY its) n) (fun its n=>(∀i∈its,Rd O t i.val i.w i.ok i.p i.n)) (fun its n=>its.map It.rg=l) (fun its n=>its.length≤4) (fun its n=>∀i∈its,i.good)
theorem tS(x:V)(r:Rg):(DK x r).good:=⟨rfl,r.pre,r.start,rfl,rfl⟩
noncomputable def hV(O:PO g)(r:Rg):It:=DK (.dct (bJ O r.style r.pre r.start)) r
noncomputable def Ae(O:PO g)(r:Rg):Rw:=⟨.int r.first,r.first,.dct (bJ O r.style r.pre r.start)⟩
theorem EV(l:List Rg):kY (l.map (Ae O))=cO (l.map (bT O)):=by
 unfold kY cO;rw[List.flatMap_map,List.flatMap_map];rfl
theorem BO(l:List Rg):fP (l.map (Ae O))=dY (l.map (hV O)):=by
 unfold fP dY;rw[List.map_map,List.map_map];rfl
theorem uD{t:List (Int×V)}{d:List (Str×V)}{l:List Rg}(h1:aT d "Kids" =none)(h2:aT d "Nums" =some (.lst (cO (l.map (bT O)))))(hz:l.length≤1000):zX O t d (dY (l.map (hV O))) 1:=by
 rw[←BO]
 rw[←EV] at h2
 refine .leaf h1 h2 (fun p hp=>?_) (by rw[List.length_map];exact hz)
 refine aH (List.mem_map.mp hp) fun r _ z2=>?_
 subst z2
 exact .plain .int
theorem wS{t:List (Int×V)}{l:List Rg}(h:mI l):∀i∈l.map (hV O),Rd O t i.val i.w i.ok i.p i.n:=fun i hi=>by
 refine aH (List.mem_map.mp hi) fun r hr z2=>?_
 subst z2
 exact BY (.plain .dct) (h.ok r hr).st (h.pre r hr)
theorem wR(l:List Rg):(l.map (hV O)).map It.rg=l:=by
 rw[List.map_map]
 exact(List.map_congr_left fun r _=>rfl).trans (List.map_id l)
theorem rI(l:List Rg):∀i∈l.map (hV O),i.good:=fun i hi=>by
 refine aH (List.mem_map.mp hi) fun r hr z2=>?_
 subst z2
 exact tS _ r
theorem Bf{t:List (Int×V)}{l:List Rg}{w:Int}(h:mI l):DZ O t (f8 (l.map (bT O)) w) l:=by
 have hz:l.length≤1000:=Nat.le_trans h.len (by decide)
 unfold f8
 split
 ·exact⟨_,1,by decide,uD rfl rfl hz,wS h,wR l,by rw[List.length_map];exact h.len,rI l⟩
 ·refine⟨l.map (hV O),3,by decide,?_,wS h,wR l,by rw[List.length_map];exact h.len,rI l⟩
  have e:dY (l.map (hV O))=dY ((l.take 2).map (hV O))++dY ((l.drop 2).map (hV O)):=by
   unfold dY
   rw[←List.map_append,←List.map_append,List.take_append_drop]
  rw[e,←List.map_take,←List.map_drop]
  refine .kids rfl (uD rfl ?_ ?_) (uD rfl ?_ ?_)
  ·rfl
  ·rw[List.length_take];exact aB [_] [] (.Le .w (.n 2)) 1 (.Le .w (.n 1000)) 0 qq (Nat.min_le_left _ _)
  ·rfl
  ·rw[List.length_drop];exact aI [_,_] [] (.Le .x (.n 1000)) 1 (.Le .w .x) 1 (.Le .w (.n 1000)) 0 qq hz (Nat.sub_le _ _)
noncomputable def refs(O:PO g):Nat→Nat→List V
 |_,0=>[]
 |k,n+1=>lZ O ((k:Int)+1) 0::refs O (k+1) n
theorem yQ{k n}:refs O k (n+1)=lZ O ((k:Int)+1) 0::refs O (k+1) n:=rfl
theorem tH:∀n k:Nat,refs O k n++[lZ O (((k+n:Nat):Int)+1) 0]=refs O k (n+1)
 |0,k=>rfl
 |n+1,k=>by
  rw[yQ,List.cons_append,show k+(n+1)=k+1+n by exact d9 [_,_] [] (.Eq (.a .w (.a .x (.n 1))) (.a (.a .w (.n 1)) .x)) qq,tH n (k+1)];rfl
noncomputable def rH(O:PO g):Nat→List Rg→List Rw
 |_,[]=>[]
 |k,r::l=>⟨lZ O ((k:Int)+1) 0,r.first,lZ O (((k+1:Nat):Int)+1) 0⟩::rH O (k+2) l
theorem uI{k r l}:rH O k (r::l)=⟨lZ O ((k:Int)+1) 0,r.first,lZ O (((k+1:Nat):Int)+1) 0⟩::rH O (k+2) l:=rfl
noncomputable def n7(O:PO g):Nat→List Rg→List It
 |_,[]=>[]
 |k,r::l=>DK (lZ O (((k+1:Nat):Int)+1) 0) r::n7 O (k+2) l
theorem qN{k r l}:n7 O k (r::l)=DK (lZ O (((k+1:Nat):Int)+1) 0) r::n7 O (k+2) l:=rfl
theorem Ad:∀(l:List Rg) (k:Nat),kY (rH O k l)=refs O k (2*l.length)
 | [],_=>rfl
 |r::l,k=>by
  have:=Ad l (k+2)
  rw[List.length_cons,show 2*(l.length+1)=2*l.length+1+1 by exact d9 [_] [] (.Eq (.m 2 (.a .w (.n 1))) (.a (.a (.m 2 .w) (.n 1)) (.n 1))) qq,yQ,yQ,←this];rfl
theorem tI:∀(l:List Rg) (k:Nat),fP (rH O k l)=dY (n7 O k l)
 | [],_=>rfl
 |r::l,k=>by
  have:=tI l (k+2)
  unfold fP dY at this ⊢
  rw[uI,qN,List.map_cons,List.map_cons,this];rfl
theorem BV:∀(l:List Rg) (k:Nat),(n7 O k l).map It.rg=l
 | [],_=>rfl
 |r::l,k=>by rw[qN,List.map_cons,BV l (k+2)];rfl
theorem wO:∀(l:List Rg) (k:Nat),∀i∈n7 O k l,i.good
 | [],_=>fun _ h=>nomatch h
 |r::l,k=>fun i h=>by
  rcases List.mem_cons.mp h with rfl|h
  ·exact tS _ r
  ·exact wO l (k+2) i h
theorem mU{xs:List V}{k:Nat}{x:V}(h:xs[k]? =some x):aT (tab xs) ((k:Int)+1)=some (.tup [.int 0,x]):=by
 have:=rA 1 xs k x h
 rw[Int.add_comm] at this
 exact this
theorem EZ:∀(l:List Rg) (pre ys:List V),(∀p∈rH O pre.length l,Fe O (tab (pre++cO (l.map (bT O))++ys)) p.raw (.int p.key))∧((∀r∈l,r.style∈dF∧r.pre∈iO)→∀i∈n7 O pre.length l,Rd O (tab (pre++cO (l.map (bT O))++ys)) i.val i.w i.ok i.p i.n):=by
 intro l
 induction l with
 |nil=>intro _ _;exact⟨(fun _ h=>nomatch h),fun _ _ h=>nomatch h⟩
 |cons r l ih=>
  intro pre ys
  have e:pre++cO ((r::l).map (bT O))++ys=(pre++[.int r.first,.dct (bJ O r.style r.pre r.start)])++cO (l.map (bT O))++ys:=by
   rw[List.map_cons]
   unfold cO
   rw[List.flatMap_cons,←List.append_assoc];rfl
  have hl:(pre++[.int r.first,.dct (bJ O r.style r.pre r.start)]:List V).length=pre.length+2:=by rw[List.length_append];rfl
  obtain⟨i1,i2⟩:=ih (pre++[.int r.first,.dct (bJ O r.style r.pre r.start)]) ys
  rw[hl] at i1 i2
  rw[e]
  have a0:((pre++[.int r.first,.dct (bJ O r.style r.pre r.start)])++cO (l.map (bT O))++ys)[pre.length]? =some (.int r.first):=by
   rw[List.append_assoc,List.append_assoc,List.getElem?_append_right (Nat.le_refl _),Nat.sub_self];rfl
  have a1:((pre++[.int r.first,.dct (bJ O r.style r.pre r.start)])++cO (l.map (bT O))++ys)[pre.length+1]? =some (.dct (bJ O r.style r.pre r.start)):=by
   rw[List.append_assoc,List.append_assoc,List.getElem?_append_right (Nat.le_add_right ..),Nat.add_sub_cancel_left];rfl
  refine⟨fun p hp=>?_,fun hk i hi=>?_⟩
  ·rw[uI] at hp
   rcases List.mem_cons.mp hp with rfl|hp
   ·exact .hop (mU a0) .int
   ·exact i1 p hp
  ·rw[qN] at hi
   rcases List.mem_cons.mp hi with rfl|hi
   ·have:=hk r (List.mem_cons_self ..)
    exact BY (.hop (mU a1) .dct) this.1 this.2
   ·exact i2 (fun r hr=>hk r (List.mem_cons_of_mem _ hr)) i hi
theorem tK:∀(l:List Rg) (k:Nat),(n7 O k l).length=l.length
 | [],_=>rfl
 |r::l,k=>by rw[qN,List.length_cons,tK l (k+2)];rfl
theorem tJ:∀(l:List Rg) (k:Nat),(rH O k l).length=l.length
 | [],_=>rfl
 |r::l,k=>by rw[uI,List.length_cons,tJ l (k+2)];rfl
theorem Bg{ys:List V}{l:List Rg}(h:mI l):DZ O (tab (cO (l.map (bT O))++ys)) [("Nums",.lst (refs O 0 (2*l.length)))] l:=by
 have hz:l.length≤1000:=Nat.le_trans h.len (by decide)
 refine aG (EZ (O:=O) l [] ys) fun i1 i2=>?_
 refine⟨n7 O 0 l,1,by decide,?_,i2 fun r hr=>⟨(h.ok r hr).st,h.pre r hr⟩,BV l 0,by rw[tK];exact h.len,wO l 0⟩
 rw[←tI]
 exact .leaf rfl (by rw[Ad];rfl) i1 (by rw[tJ];exact hz)
end
theorem W1.exP{ι:Type}{c:Cx}{σ:St}{X:Value→St→Prop}{st:Stmt}{Q:Fl→St→Prop}(S:ι→St)(R:ι→Prop)(h1:W1 c st σ X fun fl s=>fl= .next∧∃k,R k∧s=S k)(h2:∀k,R k→Q .next (S k)):W1 c st σ X Q:=
 WT.mono h1 fun _ _ ⟨e1,k,r,e2⟩=>by subst e1 e2;exact h2 k r
theorem BF(ι:Type){c:Cx}{σ:St}{X:Value→St→Prop}{st:Stmt}{r:List Stmt}{Q:Fl→St→Prop}(S:ι→St)(R:ι→Prop)(h1:W1 c st σ X fun fl s=>fl= .next∧∃k,R k∧s=S k)(h2:∀k,R k→WX c r (S k) X Q):WX c (st::r) σ X Q:=aU (W1.exP S R h1 h2)
theorem Dw{α:Type}{a b c d e:α}: [a,b,c,d,e].Perm [e,a,b,c,d]:=List.perm_middle (a:=e) (l₁:=[a,b,c,d]) (l₂:=[])
theorem H1{α:Type}{a b c d:α}: [a,b,c,d].Perm [d,a,b,c]:=List.perm_middle (a:=d) (l₁:=[a,b,c]) (l₂:=[])
structure KI where
 xs:List V
 kvs:List (Str×V)
 cells:List Int
 spot:Int
 left:Int
theorem WC.nod{c:Cx}{σ:St}{X:Value→St→Prop}{Q:Bool→St→Prop}{l:Expr}(h:(σ.own.map (·.1)).Nodup→WC c l σ X Q):WC c l σ X Q:=
 fun B s Φ Ψ hc hΦ hΨ=>h (bF.split hc.base.nod).2.2.2.1 B s Φ Ψ hc hΦ hΨ
noncomputable def Bt(a tab:Addr)(b:Int)(own:List (Addr×OV)):Prop:=Bz (fun cells spot left o rest=>own=(a,dW cells spot left)::rest) (fun cells spot left o rest=>(tab,OV.raw (tabObj o))∈rest) (fun cells spot left o rest=>eN b cells spot left)
noncomputable def Ft(a tab:Addr)(b:Int)(own:List (Addr×OV)):Prop:=t5 (fun cells spot left o=>eN b cells spot left) (fun cells spot left o=>own=[(a,dW cells spot left),(tab,.raw (tabObj o))])
theorem Bt.sub{a tab:Addr}{b:Int}{o:List (Addr×OV)}(h:Bt a tab b o):∃o',o'.Sublist o∧Ft a tab b o' :=by
 refine Bz.e h fun cells spot left ps rest z0 h2 h3=>?_
 clear h
 subst z0
 exact⟨[_,_],(List.singleton_sublist.mpr h2).cons_cons _,cells,spot,left,ps,h3,rfl⟩
noncomputable def Az(x0 x1 x2 x3 x4:Option V):List (Str×Slot):=[("pen",.loc x0),("ranges",.loc x1),("width",.loc x2),("shelf",.cel x3),("tree",.loc x4),("_law_draw",.glob),("Shelf",.glob),("write_labels",.glob),("_law_width",.glob),("read_labels",.glob)]
theorem zT{g:Gx}(P:PF g)(E:PE g){O:PO g}(M:PM g O)(D:FI g P)(L:DY g (P.fd 32)){l:List Rg}{a:Addr}{b:Int}{cells:List Int}{spot left:Int}(ok:eN b cells spot left)(hb:b≤1000)(hr:mI l):
  aS g 7 (.val (.ref (P.fa 75))) [.val (.ref a),.lst (l.map Rg.v)] [(a,dW cells spot left),(L.tab,.raw (tabObj #[]))] cK (fun v own=>v= .bool true∧Ft a L.tab (b+20) own):=by
 refine aS.sub (Q:=fun v own=>v= .bool true∧Bt a L.tab (b+20) own) (X:=cK) ?_ (fun v o ⟨h1,h2⟩=>by obtain⟨o',h3,h4⟩:=h2.sub;exact⟨o',h3,h1,h4⟩) (fun _ _ h=>h.elim)
 refine aN (ps:=["pen", "ranges"]) (P.i 75 rfl) (P.j 75 rfl) (fun _ _ _=>rfl) rfl fun c RR hRR hl hcel hcode hpins=>?_
 ·refine(?_:WX _ _ ⟨Az (some _) (some _) none none none,_⟩ _ _)
  refine aU (iD (.cons (.cons .nil)) ?_)
  refine bS ?_
  refine a8 ?_
  refine aD ?_
  refine aC ?_
  refine bM (P.i 63 rfl) 5 rfl ?_
  refine a8 ?_
  refine a9 0 rfl ?_
  refine a8 ?_
  refine aC ?_
  refine aA ?_
  refine eW.drawI (by exact lv hl) (.take .nil) (gV P ok (by exact aB [] [_] (.le .w (.n 1000)) 1 (.le .w (.n 10000)) 0 (.refl true) hb) (by decide) (by decide)) fun d cells spot left d0 d1 ok=>?_
  refine aJ ?_
  refine a8 ?_
  refine nP O.cH.gl O.cH.keep 6 rfl ?_
  refine aA ?_
  refine⟨2,_,by exact lv hl,vF O,fun x own' hn hx=>?_⟩
  refine fT.e hx fun ta ra z0 z1=>?_
  clear hx
  subst z0
  subst z1
  refine aA ?_
  refine dA rfl ?_
  refine⟨_,_,rfl,.cons (aR 2 rfl) (.cons (aR 3 rfl) .nil),.cons (aR 3 rfl) (.cons (aR 2 rfl) .nil),?_,rfl⟩
  have nta:qH c ta:=hn (ta,.idct []) (by simp)
  have nra:qH c ra:=hn (ra,.dct []) (by simp)
  refine aM ?_
  refine bM (P.i 58 rfl) 7 rfl ?_
  refine a8 ?_
  refine a9 1 rfl ?_
  refine a8 ?_
  refine a9 2 rfl ?_
  refine aA ?_
  refine⟨5,_,_,_,_,by exact lv hl,.keep (.keep (.keep (.take .nil))),DU P E O D L hr.len hr.ok hr.chk (by(clear nra nta hn ok hcode hRR D hpins hcel hl hr hb;lia -abstractProof)),fun y own' hn2 hy=>?_,fun _ _ hx=>hx.elim⟩
  refine fT.e hy fun T o z0 z1=>?_
  clear hy
  subst z0
  subst z1
  refine d8 4 rfl ?_
  refine bU ?_
  refine WC.nod fun nd=>?_
  have nT:qH c T:=(hn2 (T,_) (List.mem_cons_self ..)).resolve_left fun h=>by
   have:T=L.tab:=by simpa using h
   subst this
   exact(List.nodup_cons.mp nd).1 (List.mem_cons_self ..)
  clear nd hn hn2
  refine aK ?_
  refine bM (P.i 74 rfl) 8 rfl ?_
  refine a8 ?_
  refine a9 4 rfl ?_
  refine aA ?_
  refine⟨2,_,_,_,_,by exact lv hl,.take .nil,DV P (by rw[List.length_map];exact hr.len) (by(clear nT nra nta ok hcode hRR D hpins hcel hl hr hb;lia -abstractProof)),fun y own' _ hy=>?_,fun _ _ hx=>hx.elim⟩
  refine aG hy fun z0 z1=>?_
  clear hy
  refine aH z0 fun k z5 hk=>?_
  clear z0
  subst z5
  subst z1
  refine a9 2 rfl ?_
  refine qA ?_
  refine kb ?_
  refine bI ?_
  refine bK (decide_eq_false (by exact aB [] [_,_] (.le .x (.a (.n 2) .w)) 1 (.nlt (.a (.n 2) .w) .x) 0 (.refl true) hk)) ?_
  refine aF ?_
  refine BF ?_ ?_ ?_ ?_ ?_
  ·exact KI
  ·exact fun k:KI=>⟨Az (some (.val (.ref a))) (some (.lst (l.map Rg.v))) (some (.int (2+d))) (some (cG O ta ra)) (some (.val (.ref T))),[(ta,.idct (tab k.xs)),(a,dW k.cells k.spot k.left),(T,.dct k.kvs),(L.tab,.raw (tabObj o)),(ra,.dct [])]⟩
  ·exact fun k=>k.xs.length≤8∧(∀ys,DZ O (tab (k.xs++ys)) k.kvs l)∧eN (b+2) k.cells k.spot k.left
  ·refine wK ?_
   refine cZ ?_
   refine eG ?_
   refine aK ?_
   refine aE ?_
   refine a9 4 rfl ?_
   have stay:∀{cells spot left},eN (b+2) cells spot left→∀σ' :St,σ' =⟨Az (some (.val (.ref a))) (some (.lst (l.map Rg.v))) (some (.int (2+d))) (some (cG O ta ra)) (some (.val (.ref T))),[(ta,.idct []),(a,dW cells spot left),(T,.dct (f8 (l.map (bT O)) (2+d))),(L.tab,.raw (tabObj o)),(ra,.dct [])]⟩→
     ∃k:KI,(k.xs.length≤8∧(∀ys,DZ O (tab (k.xs++ys)) k.kvs l)∧eN (b+2) k.cells k.spot k.left)∧σ' =⟨Az (some (.val (.ref a))) (some (.lst (l.map Rg.v))) (some (.int (2+d))) (some (cG O ta ra)) (some (.val (.ref T))),[(ta,.idct (tab k.xs)),(a,dW k.cells k.spot k.left),(T,.dct k.kvs),(L.tab,.raw (tabObj o)),(ra,.dct [])]⟩:=
    fun ok' _ e=>⟨⟨[],f8 (l.map (bT O)) (2+d),_,_,_⟩,⟨Nat.zero_le _,fun ys=>Bf hr,ok'⟩,e⟩
   by_cases hw:((l.map (bT O)).length:Int)≤2+d
   ·have ht:f8 (l.map (bT O)) (2+d)=([("Nums",.lst (cO (l.map (bT O))))]:List (Str×V)):=if_pos hw
    rw[ht] at stay ⊢
    refine lO .here ?_
    refine kb ?_
    refine bI ?_
    refine cU rfl ?_
    refine eG ?_
    refine aK ?_
    refine bM (P.i 63 rfl) 5 rfl ?_
    refine a8 ?_
    refine a9 0 rfl ?_
    refine a8 ?_
    refine aC ?_
    refine aA ?_
    refine eW.drawI (by exact lv hl) (.keep (.keep (.keep (.keep (.take .nil))))) (gV P ok (by exact aB [] [_] (.le .w (.n 1000)) 1 (.le (.a .w (.n 1)) (.n 10000)) 0 (.refl true) hb) (by decide) (by decide)) fun e cells spot left e0 e1 ok=>?_
    have hR:(cO (l.map (bT O))).length=2*l.length:=by rw[iE,List.length_map]
    have hl4:=hr.len
    refine aC ?_
    refine fA ?_
    refine kb ?_
    refine bL (fun _=>?_) (fun _=>?_)
    ·refine dQ ?_
     refine cU rfl ?_
     refine WX.perm Dw ?_
     refine aU (eH ?_)
     refine dZ (by exact .loc (.loc (.fre (.skip (.skip (.skip (.cel)))) (.nil)))) ?_
     refine bH ?_
     refine aV ?_
     refine a9 4 rfl ?_
     refine aE ?_
     refine j7 (.skip (.skip .here)) rfl ?_
     refine⟨_,.lst,by rw[hR];exact Nat.le_trans (show 2*l.length≤8 by exact aB [_] [] (.Le .w (.n 4)) 2 (.Le (.m 2 .w) (.n 8)) 0 (.refl true) hl4) (by decide),rfl,fun r ys own=>∃k:Nat,k+r.length=(cO (l.map (bT O))).length∧r=(cO (l.map (bT O))).drop k∧ys=refs O 0 k∧own=[(ta,.idct (tab ((cO (l.map (bT O))).take k))),(a,dW cells spot left),(T,.dct [("Nums",.lst (cO (l.map (bT O))))]),(L.tab,.raw (tabObj o)),(ra,.dct [])],⟨0,Nat.zero_add _,rfl,rfl,rfl⟩,?_,?_⟩
     ·intro JJ1 hJJ1 x r ys own z0
      refine Bi z0 fun k f0 f1 z3 z4=>?_
      clear z0
      subst z3
      subst z4
      intro e ps B
      rw[List.length_cons] at f0
      have hk:k<(cO (l.map (bT O))).length:=by exact aB [_,_,_] [] (.Eq (.a .w (.a .y (.n 1))) .x) 1 (.Lt .w .x) 0 (.refl true) f0
      have hd:x=(cO (l.map (bT O)))[k]∧r=(cO (l.map (bT O))).drop (k+1):=by
       rw[List.drop_eq_getElem_cons hk] at f1
       exact List.cons.inj f1
      have ht:((cO (l.map (bT O))).take k).length=k:=by rw[List.length_take];exact(Nat.min_eq_left (aB [_,_] [] (.Lt .w .x) 1 (.Le .w .x) 0 (.refl true) hk))
      refine bE 1 rfl (f6 ?_)
      refine aY ?_
      refine a9 2 rfl ?_
      refine⟨_,dU M.mAd.ok rfl,.fn M.mAd.im.fn,?_⟩
      refine a8 ?_
      refine a9 1 rfl ?_
      refine aA ?_
      refine gL (.take .nil) (by show _≤c.lvl;exact lv hl) (Av (g:=g) P M (by exact uT [_,_,_,_] [] (.Eq .x (.m 2 .y)) 1 (.Le .y (.n 4)) 2 (.Lt .z .x) 1 (.Eq .w .z) 1 (.Le .w (.n 1000)) 0 (.refl true) hR hl4 hk ht)) ?_
      refine hJJ1 _ _ _ ?_;refine⟨k+1,by exact cA [_,_,_] [] (.Eq (.a .w (.a .x (.n 1))) .y) 1 (.Eq (.a (.a .w (.n 1)) .x) .y) (.refl true) f0,hd.2,by rw[←tH k 0,ht,Nat.zero_add],?_⟩
      rw[hd.1,List.take_append_getElem];rfl
     intro ys own z0
     refine Bi z0 fun k f0 f1 z3 z4=>?_
     clear z0
     subst z3
     subst z4
     obtain rfl:k=2*l.length:=by rw[←hR,←f0];rfl
     rw[List.take_of_length_le (by exact aB [_,_] [] (.Eq .w (.m 2 .x)) 1 (.Le .w (.m 2 .x)) 0 (.refl true) hR)]
     refine a9 4 rfl ?_
     refine aE ?_
     refine⟨_,rfl,?_⟩
     refine .inr (.inl ⟨_,_,_,rfl,by exact Nat.le_of_ble_eq_true rfl,.skip (.skip .here),?_⟩)
     refine aF ?_
     exact⟨rfl,⟨_,[("Nums",.lst (refs O 0 (2*l.length)))],_,_,_⟩,⟨show(cO (l.map (bT O))).length≤8 by exact aI [_,_] [] (.Eq .w (.m 2 .x)) 1 (.Le .x (.n 4)) 2 (.Le .w (.n 8)) 0 (.refl true) hR hl4,fun ys=>Bg hr,⟨ok.n,ok.s0,by have:=ok.s1;show spot≤b+2;exact aB [] [_,_] (.le .w (.a (.a .x (.n 1)) (.n 1))) 1 (.le .w (.a .x (.n 2))) 0 (.refl true) this⟩⟩,rfl⟩
    ·refine bK rfl ?_
     refine WX.perm Dw ?_
     refine aF ?_
     exact⟨rfl,stay ⟨ok.n,ok.s0,by have:=ok.s1;exact aB [] [_,_] (.le .w (.a (.a .x (.n 1)) (.n 1))) 1 (.le .w (.a .x (.n 2))) 0 (.refl true) this⟩ _ rfl⟩
   ·have ht:f8 (l.map (bT O)) (2+d)=([("Kids",.lst [c6 ((l.map (bT O)).take 2),c6 ((l.map (bT O)).drop 2)])]:List (Str×V)):=if_neg hw
    rw[ht] at stay ⊢
    refine lO .here ?_
    refine kb ?_
    refine bI ?_
    refine bK rfl ?_
    refine gK rfl ?_
    refine WX.perm (Dw.trans Dw) ?_
    refine aF ?_
    exact⟨rfl,stay ⟨ok.n,ok.s0,by have:=ok.s1;exact aB [] [_,_] (.le .w (.a .x (.n 1))) 1 (.le .w (.a .x (.n 2))) 0 (.refl true) this⟩ _ rfl⟩
  ·rintro⟨xs,kvs,cells,spot,left⟩ ⟨hxs,hg,ok⟩
   dsimp only at hxs hg ok ⊢
   refine aU (eH ?_)
   refine aY ?_
   refine a9 3 rfl ?_
   refine⟨_,dU M.mAd.ok rfl,.fn M.mAd.im.fn,?_⟩
   refine a8 ?_
   refine fF ?_ ?_ ?_ ?_ ?_
   rotate_left
   rfl
   rfl
   simp
   decide
   intro D1 o1
   refine bC ?_
   refine aE ?_
   refine kp ?_
   refine aY ?_
   refine a9 3 rfl ?_
   refine⟨_,dU M.mAd.ok rfl,.fn M.mAd.im.fn,?_⟩
   refine a8 ?_
   refine WE.frz ?_
   refine a9 4 rfl ?_
   refine⟨T,_,_,_,_,_,nT,.skip (.skip .here),.dct,.keep (.keep (.keep (.keep (.loc .here (.keep (.keep (.keep (.keep (.keep .nil))))))))),.here,?_⟩
   refine aA ?_
   refine gL (.take .nil) (by show _≤c.lvl;exact lv hl) (Av P M (by exact aB [_] [] (.Le .w (.n 8)) 1 (.Le .w (.n 1000)) 0 (.refl true) hxs)) ?_
   refine cV ?_
   refine aA ?_
   refine gL (.take .nil) (by exact lv hl) (Av P M (by rw[List.length_append];show xs.length+1≤1000;exact aB [_] [] (.Le .w (.n 8)) 1 (.Le (.a .w (.n 1)) (.n 1000)) 0 (.refl true) hxs)) ?_
   refine jK ?_
   refine a9 3 rfl ?_
   refine jF M.aTrailer rfl rfl ?_
   refine aE ?_
   refine⟨_,rfl,?_⟩
   refine .inr (.inl ⟨_,_,_,rfl,by decide,.skip (.skip (.skip .here)),?_⟩)
   refine WX.perm H1 ?_
   refine aO ?_
   refine nQ ?_
   refine bM (P.i 60 rfl) 9 rfl ?_
   refine a8 ?_
   refine a9 3 rfl ?_
   refine aA ?_
   obtain⟨its,n,i1,i2,i3,i4,i5,i6⟩:=hg ([.dct kvs]++[.dct [("PageLabels",lZ O (xs.length+1) 0)]])
   rw[←List.append_assoc] at i2 i3
   have a0:(xs++[.dct kvs]++[.dct [("PageLabels",lZ O (xs.length+1) 0)]])[xs.length]? =some (.dct kvs):=by
    rw[List.append_assoc,List.getElem?_append_right (Nat.le_refl _),Nat.sub_self];rfl
   have a1:(xs++[.dct kvs]++[.dct [("PageLabels",lZ O (xs.length+1) 0)]])[(xs++[.dct kvs]:List V).length]? =some (.dct [("PageLabels",lZ O (xs.length+1) 0)]):=by
    rw[List.getElem?_append_right (Nat.le_refl _),Nat.sub_self];rfl
   refine⟨6,_,_,_,_,by exact lv hl,.take (.take .nil),mF P E M (.at (.hop (mU a1) .dct)) (.hop (mU a0) .dct) i2 i1 (Nat.le_trans i5 (by decide)) i3,fun y own' _ hy=>?_,fun cls own' hx=>?_⟩
   ·refine aG hy fun z0 z1=>?_
    clear hy
    refine eT z0 fun z3 _ _=>?_
    clear z0
    subst z3
    subst z1
    rw[i4]
    refine a9 1 rfl ?_
    refine l6 (r:=l) Ao (fun r hr' =>⟨(hr.ok r hr').so,(hr.ok r hr').po⟩) (fun r hr' =>⟨(hr.ok r hr').so,(hr.ok r hr').po⟩) ?_
    rw[decide_eq_true rfl]
    refine hRR _ _ ?_
    exact⟨rfl,cells,spot,left,_,_,rfl,by repeat (first|exact List.Mem.head _|apply List.Mem.tail),⟨ok.n,ok.s0,by have:=ok.s1;exact aB [] [_,_] (.le .w (.a .x (.n 2))) 1 (.le .w (.a .x (.n 20))) 0 (.refl true) this⟩⟩
   ·refine aG hx fun z0 _=>?_
    clear hx
    refine aG z0 fun _ h=>?_
    clear z0
    rcases h with⟨i,hi,hb⟩|h
    ·refine aG (i6 i hi) fun g1 z0=>?_
     refine fT.e z0 fun p n g2 g3=>?_
     clear z0
     rcases hb with hb|hb|hb
     ·rw[hb] at g1;cases g1
     ·rw[hb] at g2;cases g2
     ·rw[hb] at g3;cases g3
    ·rw[i4,hr.chk] at h;cases h
theorem WX.frzCel{c:Cx}{σ:St}{X:Value→St→Prop}{l:List Stmt}{Q:Fl→St→Prop}{x:Str}{Y:V}{env' :List (Str×Slot)}(hn:kP c)(hx:oE x Y σ.env env')(h:WX c l ⟨env',σ.own⟩ X Q):WX c l σ X Q:=WT.frzCel hn hx h
theorem nV:∀(l:List Rg) (last:Int) (y x:Rg),l.getLast? =some y→x.first≤y.first→chk last (l++[x])=false
 | [],_,_,_,h,_=>nomatch h
 | [r],last,y,x,h,hx=>by
  obtain rfl:r=y:=Option.some.inj h
  have:gO r.first x=true:=by unfold gO;rw[decide_eq_true hx];rfl
  show(!gO last r&&(!gO r.first x&&chk x.first []))=false
  rw[this];cases gO last r<;>rfl
 |r::s::l,last,y,x,h,hx=>by
  rw[List.getLast?_cons_cons] at h
  have:=nV (s::l) r.first y x h hx
  show(!gO last r&&chk r.first (s::l++[x]))=false
  rw[this,Bool.and_false]
noncomputable def mK:List Rg:=[⟨3, "d", "",1⟩,⟨3, "D", "",0⟩,⟨-1, "D", "",1⟩,⟨3, "RR", "x",2⟩]
theorem qY:∀r∈mK,chk (-1) [r]=false:=by
 intro r hr
 simp only[mK,List.mem_cons,List.not_mem_nil,or_false] at hr
 rcases hr with rfl|rfl|rfl|rfl<;>rfl
noncomputable def xE{g:Gx}(O:PO g):List V:=[.dct [("S",jX O "d")],.dct [("S",.int 5)],.dct [("P",jX O "x")],.dct [("St",.int 0)],.dct [("St",.bool true)],.dct [("St",sO O #[49])],.int 7]
theorem Bc{g:Gx}{O:PO g}{y:V}(hy:y∈xE O):∃i:It,i.key=0∧i.val=y∧(∀t,Rd O t i.val i.w i.ok i.p i.n)∧(¬i.good∨chk (-1) [i.rg]=false):=by
 have no:∀{x:Option Str} {m:Option Int} {b:Bool} {w:Str} {y:V},(b=false∨x=none∨m=none)→¬(⟨0,y,w,b,x,m⟩:It).good:=by
  intro x m b w y h z0
  refine aG z0 fun h1 z1=>?_
  clear z0
  refine fT.e z1 fun p n h2 h3=>?_
  clear z1
  rcases h with rfl|rfl|rfl
  ·cases h1
  ·cases h2
  ·cases h3
 simp only[xE,List.mem_cons,List.not_mem_nil,or_false] at hy
 rcases hy with rfl|rfl|rfl|rfl|rfl|rfl|rfl
 ·exact⟨⟨0,_, "d",_,some "",some 1⟩,rfl,rfl,fun t=>⟨.inl ⟨_,_,_,_,.plain .dct,.plain .nm,.nm,.plain .none,.none,.plain .none,.none⟩⟩,.inl (no (.inl (by decide)))⟩
 ·exact⟨⟨0,_, "",_,some "",some 1⟩,rfl,rfl,fun t=>⟨.inl ⟨_,_,_,_,.plain .dct,.plain .int,.int,.plain .none,.none,.plain .none,.none⟩⟩,.inl (no (.inl rfl))⟩
 ·exact⟨⟨0,_, "",_,none,some 1⟩,rfl,rfl,fun t=>⟨.inl ⟨_,_,_,_,.plain .dct,.plain .none,.none,.plain .nm,.nm,.plain .none,.none⟩⟩,.inl (no (.inr (.inl rfl)))⟩
 ·exact⟨⟨0,_, "",_,some "",some 0⟩,rfl,rfl,fun t=>⟨.inl ⟨_,_,_,_,.plain .dct,.plain .none,.none,.plain .none,.none,.plain .int,.int⟩⟩,.inr rfl⟩
 ·exact⟨⟨0,_, "",_,some "",none⟩,rfl,rfl,fun t=>⟨.inl ⟨_,_,_,_,.plain .dct,.plain .none,.none,.plain .none,.none,.plain .bool,.bool⟩⟩,.inl (no (.inr (.inr rfl)))⟩
 ·exact⟨⟨0,_, "",_,some "",none⟩,rfl,rfl,fun t=>⟨.inl ⟨_,_,_,_,.plain .dct,.plain .none,.none,.plain .none,.none,.plain .st,.st⟩⟩,.inl (no (.inr (.inr rfl)))⟩
 ·exact⟨⟨0,_, "",false,some "",some 1⟩,rfl,rfl,fun t=>⟨.inr ⟨rfl,7,.plain .int⟩⟩,.inl (no (.inl rfl))⟩
structure WI where
 l:List Rg
 cells:List Int
 spot:Int
 left:Int
theorem Ag:∀fd:FuncData,fd.params=⟨[],[],none,[],[],none,[]⟩→fd.defaults= .none→fd.kwdefaults= .none→∀vs:List Value,vs.length=0→bindArgs fd ⟨vs,[]⟩=pure (([]:List Str).zip vs):=by
 intro fd h1 h2 h3 vs hl
 obtain rfl:=H7 hl;exact(bindC h1 h2 h3).trans rfl
theorem y0{g:Gx}(P:PF g)(E:PE g)(D:FI g P){l:List Rg}(hc:chk (-1) l=false){np wp p:Pos}:
  aS g 6 (.lam ⟨[],[],none,[],[],none,[]⟩ (.Call (.Name "write_labels" np) [.Name "wrong" wp] [] p) {kind:= .function,names:=[("wrong",.free),("write_labels",.globalImplicit)],isGenerator:=false,isCoroutine:=false} [("wrong",.lst (l.map Rg.v))]) [] [] (fun cls own=>cls= .ref E.tf∧own=[]) (fun _ _=>False):=by
 refine xP (ps:=[]) Ag (by decide) rfl (fun p h=>nomatch h) (by decide) (by decide) (by decide) rfl rfl rfl (.fre rfl (by decide) (.glob .nil)) fun c hg hl=>?_
 subst hg
 refine bM (P.i 58 rfl) 1 rfl (a8 (a9 0 rfl (aA ?_)))
 exact⟨5,_,_,_,_,by exact lv hl,.nil,xR P E D hc,fun y own' _ hy=>hy.elim,fun cls own' hx=>⟨hx.1,by rw[hx.2];rfl⟩⟩
theorem zU{g:Gx}(P:PF g)(E:PE g){O:PO g}(M:PM g O){ta ra:Addr}{t:List (Int×V)}{m d0 d:List (Str×V)}{l:List It}{n:Nat}(hr:pF O t m d0)(hd:Fe O t ((aT d0 "PageLabels").getD .none) (.dct d))(hT:zX O t d (dY l) n)(hn:n≤3)(hz:l.length≤1000)(hi:∀i∈l,Rd O t i.val i.w i.ok i.p i.n)(hb:(∃i∈l,¬i.good)∨chk (-1) (l.map It.rg)=false){np wp p:Pos}:
  aS g 7 (.lam ⟨[],[],none,[],[],none,[]⟩ (.Call (.Name "read_labels" np) [.Name "shelf" wp] [] p) {kind:= .function,names:=[("shelf",.free),("read_labels",.globalImplicit)],isGenerator:=false,isCoroutine:=false} [("shelf",cG O ta ra)]) [] [(ra,.dct m),(ta,.idct t)] (fun cls own=>cls= .ref E.tf∧own=[]) (fun _ _=>False):=by
 refine xP (ps:=[]) Ag (by decide) rfl (fun p h=>nomatch h) (by decide) (by decide) (by decide) rfl rfl rfl (.fre rfl (by decide) (.glob .nil)) fun c hg hl=>?_
 subst hg
 refine bM (P.i 60 rfl) 1 rfl (a8 (a9 0 rfl (aA ?_)))
 refine⟨6,_,_,_,_,by exact lv hl,.take (.take .nil),mF P E M hr hd hT hn hz hi,fun y own' _ hy=>?_,fun cls own' hx=>⟨hx.1.1,by rw[hx.2];rfl⟩⟩
 refine aG hy fun z0 _=>?_
 clear hy
 refine eT z0 fun _ h1 h2=>?_
 clear z0
 rcases hb with⟨i,hi,hb⟩|hb
 ·exact(hb (h1 i hi)).elim
 ·rw[h2] at hb;cases hb
noncomputable def GE(x0:Option V)(x1:Option V)(x2:Option V)(x3:Option V)(x5:V):List (Str×Slot):=[("pen",.loc x0),("ranges",.loc x1),("some",.loc x2),("heads",.loc x3),("shelf",.cel none),("wrong",.fre x5),("_law_pick",.glob),("_law_draw",.glob),("_law_refused",.glob),("Name",.glob),("String",.glob),("bytes",.glob),("Shelf",.glob),("read_labels",.glob)]
theorem rQ{c:Cx}(P:PF c.g)(E:PE c.g){O:PO c.g}(M:PM c.g O)(L:DY c.g (P.fd 76)){l l' :List Rg}{a:Addr}{b B0:Int}{cells:List Int}{spot left:Int}{ps:Array Value}{RR:V→List (Addr×OV)→Prop}(hRR:∀v o,v= .bool true∧Bt a L.tab B0 o→RR v o)(ok:eN b cells spot left)(hb:b≤2000)(hB:b+1≤B0)
  (hl:c.lvl=8) (hcel:kP c) (hcode:c.env.code=(P.fd 76).code) (hpins:c.pins=[]) (hps:∃c',ps= #[rawInt 505,rawInt 24,.ref c']):
  WX c ((oR 76).drop 5) ⟨GE (some (.val (.ref a))) (some (.lst (l.map Rg.v))) (some (.lst (mK.map Rg.v))) (some (.lst (xE O))) (.lst (l'.map Rg.v)),[(a,dW cells spot left),(L.tab,.raw (tabObj ps))]⟩ (FX cK) (FQ RR):=by
  refine aM ?_
  refine nP O.cH.gl O.cH.keep 12 rfl ?_
  refine aA ?_
  refine⟨2,_,by exact lv hl,vF O,fun x own' hn hx=>?_⟩
  refine fT.e hx fun ta ra z0 z1=>?_
  clear hx
  subst z0
  subst z1
  refine d8 4 rfl ?_
  refine aU (eH ?_)
  refine aY ?_
  refine a9 4 rfl ?_
  refine⟨_,dU M.mAd.ok rfl,.fn M.mAd.im.fn,?_⟩
  refine a8 ?_
  refine fF ?_ ?_ ?_ ?_ ?_
  rotate_left
  ·rfl
  ·rfl
  ·simp
  ·decide
  intro D7 o7
  refine bC ?_
  refine aE ?_
  refine kp ?_
  refine fF ?_ ?_ ?_ ?_ ?_
  rotate_left
  ·rfl
  ·rfl
  ·simp
  ·decide
  intro D8 o8
  refine bC ?_
  refine aE ?_
  refine kp ?_
  refine cF ?_
  refine a8 ?_
  refine aC ?_
  refine a8 ?_
  refine bM (P.i 64 rfl) 6 rfl ?_
  refine a8 ?_
  refine a9 0 rfl ?_
  refine a8 ?_
  refine a9 3 rfl ?_
  refine aA ?_
  refine⟨2,_,_,_,_,by show 2≤c.lvl;exact lv hl,.keep (.keep (.take .nil)),lF (g:=c.g) P (xs:=xE O) ok (by exact aB [] [_] (.le .w (.n 2000)) 1 (.le .w (.n 10000)) 0 (.refl true) hb) (Nat.le_of_ble_eq_true rfl) (Nat.le_of_ble_eq_true rfl),fun y own' _ hy=>?_,fun _ _ hx=>hx.elim⟩
  refine aG hy fun z1 z0=>?_
  clear hy
  revert z1
  intro hy
  refine sF.e z0 fun cells spot left ok z2=>?_
  clear z0
  subst z2
  refine aA ?_
  refine eB rfl ?_
  refine cV ?_
  refine cV ?_
  refine aA ?_
  refine gL (.keep (.keep (.take .nil))) (by exact lv hl) (Av P M (xs:=[]) (by decide)) ?_
  refine jK ?_
  refine a9 4 rfl ?_
  refine jF M.aTrailer rfl rfl ?_
  refine aE ?_
  refine⟨_,rfl,?_⟩
  refine .inr (.inl ⟨_,_,_,rfl,by decide,.skip (.skip .here),?_⟩)
  refine WX.perm (E4.append_right [_]) ?_
  refine WX.frzCel hcel (.skip (.skip (.skip (.skip .here)))) ?_
  refine aO ?_
  refine Aq ?_
  refine cI hps fun c' z0=>?_
  clear hps
  subst z0
  obtain⟨⟨key,val,w,okk,p,n⟩,i1,i2,i3,i4⟩:=Bc hy
  dsimp only at i1 i2
  subst i1 i2
  refine bM (P.i 73 rfl) 8 rfl ?_
  refine a8 ?_
  refine s6 L.at_ (hcode.trans L.hc) (fun c' =>⟨_,.skip (.skip (.skip .here)),?_⟩) trivial rfl (.cap (List.Mem.tail _ (List.Mem.tail _ (List.Mem.tail _ (List.Mem.tail _ (List.Mem.head _))))) (.other (by decide) .nil)) hpins
  refine aA ?_
  refine eW.det 8 (by exact lv hl) (.take (.take .nil)) (mG P E .lam (zU P E M (l:=[⟨0,val,w,okk,p,n⟩]) (d:=[("Nums",.lst [.int 0,val])]) (d0:=[("PageLabels",.dct [("Nums",.lst [.int 0,val])])]) (n:=1) (.at (.hop (mU (k:=0) (xs:=[.dct [("PageLabels",.dct [("Nums",.lst [.int 0,val])])]]) rfl) .dct)) (.plain .dct) (.leaf (l:=[⟨.int 0,0,val⟩]) rfl rfl (fun p hp=>by rw[List.mem_singleton.mp hp];exact .plain .int) (Nat.le_of_ble_eq_true rfl)) (by decide) (Nat.le_of_ble_eq_true rfl) (fun j hj=>by rw[List.mem_singleton.mp hj];exact i3 _) (i4.imp (fun h=>⟨_,List.mem_singleton.mpr rfl,h⟩) id)) (R:=fun own=>own=[]) (fun _ _ h=>h)) ?_
  refine⟨_,rfl,?_⟩
  refine cU rfl ?_
  refine CB ?_
  refine nQ ?_
  refine bM (P.i 60 rfl) 13 rfl ?_
  refine a8 ?_
  refine nP O.cH.gl O.cH.keep 12 rfl ?_
  refine aA ?_
  refine⟨2,_,by exact lv hl,vF O,fun x own' hn hx=>?_⟩
  refine fT.e hx fun ta ra z0 z1=>?_
  clear hx
  subst z0
  subst z1
  refine aA ?_
  refine eW.det 6 (by exact lv hl) (.take (.take .nil)) (xU P M (.no rfl) rfl) ?_
  refine cF ?_
  refine aA ?_
  refine eB rfl ?_
  refine l6 (l:=[]) (r:=[]) Ao (fun _ h=>nomatch h) (fun _ h=>nomatch h) ?_
  refine hRR _ _ ?_;exact⟨rfl,cells,spot,left,_,_,rfl,by repeat (first|exact List.Mem.head _|apply List.Mem.tail),⟨ok.n,ok.s0,by have:=ok.s1;exact aI [] [_,_,_] (.le (.a .y (.n 1)) .x) 1 (.le .w (.a .y (.n 1))) 1 (.le .w .x) 0 (.refl true) hB this⟩⟩
noncomputable def Eu(x0:Option V)(x1:Option V)(x2:Option V)(x3:Option V)(x5:V):List (Str×Slot):=[("pen",.loc x0),("ranges",.loc x1),("some",.loc x2),("heads",.loc x3),("shelf",.cel none),("wrong",.fre x5),("_law_pick",.glob),("_law_draw",.glob),("_law_refused",.glob),("Name",.glob),("String",.glob),("bytes",.glob),("Shelf",.glob),("read_labels",.glob)]
theorem qB{c:Cx}(P:PF c.g)(E:PE c.g){O:PO c.g}(M:PM c.g O)(L:DY c.g (P.fd 76)){l l' :List Rg}{a:Addr}{b B0:Int}{cells:List Int}{spot left:Int}{ps:Array Value}{RR:V→List (Addr×OV)→Prop}(hRR:∀v o,v= .bool true∧Bt a L.tab B0 o→RR v o)(ok:eN b cells spot left)(hb:b≤2000)(hB:b+1≤B0)
  (hl:c.lvl=8) (hcel:kP c) (hcode:c.env.code=(P.fd 76).code) (hpins:c.pins=[]) (hps:∃c',ps= #[rawInt 505,rawInt 24,.ref c']):
  WX c ((oR 76).drop 4) ⟨Eu (some (.val (.ref a))) (some (.lst (l.map Rg.v))) (some (.lst (mK.map Rg.v))) none (.lst (l'.map Rg.v)),[(a,dW cells spot left),(L.tab,.raw (tabObj ps))]⟩ (FX cK) (FQ RR):=by
 refine Dh ?_ ?_ ?_
 ·exact⟨Eu (some (.val (.ref a))) (some (.lst (l.map Rg.v))) (some (.lst (mK.map Rg.v))) (some (.lst (xE O))) (.lst (l'.map Rg.v)),[(a,dW cells spot left),(L.tab,.raw (tabObj ps))]⟩
 ·refine rE (cF (a8 ?_))
  refine fF ?_ ?_ ?_ ?_ ?_
  rotate_left
  ·rfl
  ·rfl
  ·simp
  ·decide
  intro D1 o1
  refine bC (aE (kp (nP O.cN.gl O.cN.keep 9 rfl (a8 (aE (aA ?_))))))
  refine⟨2,_,by show 2≤c.lvl;exact lv hl,zR (g:=c.g) O,fun x own' _ hx=>?_⟩
  refine aG hx fun z0 z1=>?_
  clear hx
  subst z0
  subst z1
  refine cV (a8 ?_)
  refine fF ?_ ?_ ?_ ?_ ?_
  rotate_left
  ·rfl
  ·rfl
  ·simp
  ·decide
  intro D2 o2
  refine bC (aE (kp (aC (cV (a8 ?_)))))
  refine fF ?_ ?_ ?_ ?_ ?_
  rotate_left
  ·rfl
  ·rfl
  ·simp
  ·decide
  intro D3 o3
  refine bC (aE (kp (nP O.cN.gl O.cN.keep 9 rfl (a8 (aE (aA ?_))))))
  refine⟨2,_,by show 2≤c.lvl;exact lv hl,zR (g:=c.g) O,fun x own' _ hx=>?_⟩
  refine aG hx fun z0 z1=>?_
  clear hx
  subst z0
  subst z1
  refine cV (a8 ?_)
  refine fF ?_ ?_ ?_ ?_ ?_
  rotate_left
  ·rfl
  ·rfl
  ·simp
  ·decide
  intro D4 o4
  refine bC (aE (kp (aC (cV (a8 ?_)))))
  refine fF ?_ ?_ ?_ ?_ ?_
  rotate_left
  ·rfl
  ·rfl
  ·simp
  ·decide
  intro D5 o5
  refine bC (aE (kp (Fg (cV (a8 ?_)))))
  refine fF ?_ ?_ ?_ ?_ ?_
  rotate_left
  ·rfl
  ·rfl
  ·simp
  ·decide
  intro D6 o6
  refine bC (aE (kp (nP O.cS.gl O.cS.keep 10 rfl (a8 (aL P.b_bytes .type 11 rfl (a8 (cF (a8 ?_))))))))
  refine aC (aA (eB rfl (aA (Al (ns:=[49]) (by decide) (by decide) (aA ?_)))))
  refine⟨2,_,by show 2≤c.lvl;exact lv hl,xS (g:=c.g) O,fun x own' _ hx=>?_⟩
  refine aG hx fun z0 z1=>?_
  clear hx
  subst z0
  subst z1
  exact cV (a8 (aC (aA (eB rfl (d8 3 rfl (⟨rfl,rfl⟩))))))
 exact rQ P E M L (l:=l) (l' :=l') hRR ok hb hB hl hcel hcode hpins hps
noncomputable def Et(x0 x1 x2 x5:Option V):List (Str×Slot):=[("pen",.loc x0),("ranges",.loc x1),("some",.loc x2),("heads",.loc none),("shelf",.cel none),("wrong",.cel x5),("_law_pick",.glob),("_law_draw",.glob),("_law_refused",.glob),("Name",.glob),("String",.glob),("bytes",.glob),("Shelf",.glob),("read_labels",.glob)]
theorem xW{g:Gx}(P:PF g)(E:PE g){O:PO g}(M:PM g O)(D:FI g P)(L:DY g (P.fd 76)){l:List Rg}{a:Addr}{b:Int}{cells:List Int}{spot left:Int}(ok:eN b cells spot left)(hb:b≤1000)(hr:mI l):
  aS g 9 (.val (.ref (P.fa 76))) [.val (.ref a),.lst (l.map Rg.v)] [(a,dW cells spot left),(L.tab,.raw (tabObj #[]))] cK (fun v own=>v= .bool true∧Ft a L.tab (b+20) own):=by
 refine aS.sub (Q:=fun v own=>v= .bool true∧Bt a L.tab (b+20) own) (X:=cK) ?_ (fun v o ⟨h1,h2⟩=>by obtain⟨o',h3,h4⟩:=h2.sub;exact⟨o',h3,h1,h4⟩) (fun _ _ h=>h.elim)
 refine aN (ps:=["pen", "ranges"]) (P.i 76 rfl) (P.j 76 rfl) (fun _ _ _=>rfl) rfl fun c RR hRR hl hcel hcode hpins=>?_
 ·refine(?_:WX _ _ ⟨Et (some _) (some _) none none,_⟩ _ _)
  refine aM ?_
  refine cF ?_
  refine a8 ?_
  refine bS ?_
  refine a8 ?_
  refine aC ?_
  refine a8 ?_
  refine aE ?_
  refine a8 ?_
  refine aE ?_
  refine a8 ?_
  refine aC ?_
  refine aA ?_
  refine dA rfl ?_
  refine a8 ?_
  refine bS ?_
  refine a8 ?_
  refine aC ?_
  refine a8 ?_
  refine aE ?_
  refine a8 ?_
  refine aE ?_
  refine a8 ?_
  refine aC ?_
  refine aA ?_
  refine dA rfl ?_
  refine a8 ?_
  refine bS ?_
  refine a8 ?_
  refine kJ ?_
  refine aC ?_
  refine bO ?_
  refine a8 ?_
  refine aE ?_
  refine a8 ?_
  refine aE ?_
  refine a8 ?_
  refine aC ?_
  refine aA ?_
  refine dA rfl ?_
  refine a8 ?_
  refine bS ?_
  refine a8 ?_
  refine aC ?_
  refine a8 ?_
  refine aE ?_
  refine a8 ?_
  refine aE ?_
  refine a8 ?_
  refine aC ?_
  refine aA ?_
  refine dA rfl ?_
  refine aA ?_
  refine eB rfl ?_
  refine d8 2 rfl ?_
  refine aM ?_
  refine cF ?_
  refine a8 ?_
  refine bM (P.i 64 rfl) 6 rfl ?_
  refine a8 ?_
  refine a9 0 rfl ?_
  refine a8 ?_
  refine a9 2 rfl ?_
  refine aA ?_
  refine⟨2,_,_,_,_,by exact lv hl,.take .nil,lF P (xs:=mK.map Rg.v) ok (by exact aB [] [_] (.le .w (.n 1000)) 1 (.le .w (.n 10000)) 0 (.refl true) hb) (by decide) (by decide),fun y own' _ hy=>?_,fun _ _ hx=>hx.elim⟩
  refine aG hy fun z1 z0=>?_
  clear hy
  revert z1
  intro hy
  refine sF.e z0 fun cells spot left ok z2=>?_
  clear z0
  subst z2
  refine aH (List.mem_map.mp hy) fun r hw z2=>?_
  subst z2
  refine aA ?_
  refine eB rfl ?_
  refine d8 5 rfl ?_
  refine BF ?_ ?_ ?_ ?_ ?_
  ·exact WI
  ·exact fun k:WI=>⟨Et (some (.val (.ref a))) (some (.lst (l.map Rg.v))) (some (.lst (mK.map Rg.v))) (some (.lst (k.l.map Rg.v))),[(a,dW k.cells k.spot k.left),(L.tab,.raw (tabObj #[]))]⟩
  ·exact fun k=>chk (-1) k.l=false∧eN (b+3) k.cells k.spot k.left
  ·refine wK ?_
   refine cZ ?_
   refine eG ?_
   refine aK ?_
   refine a9 1 rfl ?_
   refine cF ?_
   refine aA ?_
   refine eB rfl ?_
   refine l5 (r:=[]) Ao (fun r hr' =>⟨(hr.ok r hr').so,(hr.ok r hr').po⟩) (fun _ h=>nomatch h) ?_
   refine kb ?_
   refine bL (fun _=>?_) (fun _=>?_)
   ·rename_i h
    have hne:l≠[]:=fun q=>by rw[q] at h;exact absurd h (by decide)
    have hlen:0<l.length:=List.length_pos_iff.mpr hne
    have hlast:l[l.length-1]? =some (l.getLast hne):=by rw[List.getLast_eq_getElem,List.getElem?_eq_getElem]
    have hz:=hr.len
    refine eG ?_
    refine aK ?_
    refine bM (P.i 63 rfl) 7 rfl ?_
    refine a8 ?_
    refine a9 0 rfl ?_
    refine a8 ?_
    refine aC ?_
    refine aA ?_
    refine eW.drawI (by exact lv hl) (.take .nil) (gV P ok (by exact aB [] [_] (.le .w (.n 1000)) 1 (.le (.a .w (.n 1)) (.n 10000)) 0 (.refl true) hb) (by decide) (by decide)) fun e cells spot left e0 e1 ok=>?_
    refine aC ?_
    refine fA ?_
    refine kb ?_
    refine bL (fun _=>?_) (fun _=>?_)
    ·refine dQ ?_
     refine cU rfl ?_
     refine aM ?_
     refine aD ?_
     refine a9 1 rfl ?_
     refine cF ?_
     refine a8 ?_
     refine bS ?_
     refine a8 ?_
     refine aD ?_
     refine aV ?_
     refine aV ?_
     refine a9 1 rfl ?_
     refine kJ ?_
     refine aC ?_
     refine bO ?_
     refine o_item_lst (j:=l.length-1) (by rw[List.length_map,kA (by decide) (by exact aB [_] [] (.Lt (.n 0) .w) 1 (.le (.n 0) (.a (.g (.n 1)) (.c .w))) 0 (.refl true) hlen)];congr 1;exact wZ [_,_,_] [] (.eq (.c .w) (.a (.g (.n 1)) (.c .y))) 1 (.Eq (.a .x (.n 1)) .y) (.negSucc 0) (.Eq .w .x) (.refl true) (Int.toNat_of_nonneg (aB [_] [] (.Lt (.n 0) .w) 1 (.le (.n 0) (.a (.g (.n 1)) (.c .w))) 0 (.refl true) hlen)) (Nat.sub_add_cancel (aB [_,_] [] (.eq (.c .x) (.a (.g (.n 1)) (.c .w))) 1 (.Le (.n 1) .w) 0 (.refl true) (Int.toNat_of_nonneg (aB [_] [] (.Lt (.n 0) .w) 1 (.le (.n 0) (.a (.g (.n 1)) (.c .w))) 0 (.refl true) hlen))))) (by rw[List.getElem?_map,hlast];rfl) (by decide) (by decide) ?_
     refine aC ?_
     refine cD (j:=0) (x:= .int (l.getLast hne).first) rfl rfl (by decide) (by decide) ?_
     refine bM (P.i 63 rfl) 7 rfl ?_
     refine a8 ?_
     refine a9 0 rfl ?_
     refine a8 ?_
     refine aC ?_
     refine aA ?_
     refine eW.drawI (by exact lv hl) (.take .nil) (gV P ok (by exact aB [] [_] (.le .w (.n 1000)) 1 (.le (.a (.a .w (.n 1)) (.n 1)) (.n 10000)) 0 (.refl true) hb) (by decide) (by decide)) fun e cells spot left e0 e1 ok=>?_
     refine bN ?_
     refine a8 ?_
     refine aE ?_
     refine a8 ?_
     refine aE ?_
     refine a8 ?_
     refine aC ?_
     refine aA ?_
     refine dA rfl ?_
     refine aA ?_
     refine eB rfl ?_
     refine jW ?_ (by rw[List.length_map];exact Nat.le_trans (show l.length+1≤5 by exact aB [_] [] (.Le .w (.n 4)) 1 (.Le (.a .w (.n 1)) (.n 5)) 0 (.refl true) hz) (by decide))
     refine d8 5 rfl ?_
     refine aF ?_
     exact⟨rfl,⟨l++[⟨(l.getLast hne).first-e, "D", "",1⟩],cells,spot,left⟩,⟨nV l (-1) _ _ (List.getLast?_eq_some_getLast hne) (show(l.getLast hne).first-e≤_ by exact aB [] [_,_] (.le (.n 0) .x) 1 (.le (.s .w .x) .w) 0 (.refl true) e0),⟨ok.n,ok.s0,by have:=ok.s1;show spot≤_;exact aB [] [_,_] (.le .w (.a (.a (.a .x (.n 1)) (.n 1)) (.n 1))) 1 (.le .w (.a .x (.n 3))) 0 (.refl true) this⟩⟩,by rw[List.map_append];rfl⟩
    ·refine bK rfl ?_
     refine aF ?_
     exact⟨rfl,⟨[r],cells,spot,left⟩,⟨qY r hw,⟨ok.n,ok.s0,by have:=ok.s1;show spot≤_;exact aB [] [_,_] (.le .w (.a (.a .x (.n 1)) (.n 1))) 1 (.le .w (.a .x (.n 3))) 0 (.refl true) this⟩⟩,rfl⟩
   ·refine bK rfl ?_
    refine aF ?_
    exact⟨rfl,⟨[r],cells,spot,left⟩,⟨qY r hw,⟨ok.n,ok.s0,by have:=ok.s1;show spot≤_;exact aB [] [_,_] (.le .w (.a .x (.n 1))) 1 (.le .w (.a .x (.n 3))) 0 (.refl true) this⟩⟩,rfl⟩
  ·rintro⟨l',cells,spot,left⟩ ⟨hc',ok⟩
   dsimp only at hc' ok ⊢
   refine WX.frzCel hcel (.skip (.skip (.skip (.skip (.skip .here))))) ?_
   refine bU ?_
   refine fD ?_
   refine dP ?_
   refine bM (P.i 73 rfl) 8 rfl ?_
   refine a8 ?_
   refine s6 L.at_ (hcode.trans L.hc) (fun c' =>⟨_,.skip .here,?_⟩) trivial rfl (.cap (List.Mem.tail _ (List.Mem.tail _ (List.Mem.tail _ (List.Mem.tail _ (List.Mem.tail _ (List.Mem.head _)))))) (.other (by decide) .nil)) hpins
   refine aA ?_
   refine eW.det 7 (by exact lv hl) cT.none (mG P E .lam (y0 P E D hc') (R:=fun own=>own=[]) (fun _ _ h=>h)) ?_
   refine kb ?_
   generalize hps:(#[]++ #[rawInt _,rawInt _,Value.ref c']:Array Value)=ps
   refine gK rfl ?_
   refine aF ?_
   exact qB P E M L (l:=l) (l' :=l') hRR ok (by exact aB [] [_] (.le .w (.n 1000)) 1 (.le (.a .w (.n 3)) (.n 2000)) 0 (.refl true) hb) (by exact aZ [] [_] (.le (.a (.a .w (.n 3)) (.n 1)) (.a .w (.n 20))) 0 (.refl true)) hl hcel hcode hpins ⟨c',hps.symm⟩
theorem qI{a b:Str}(h:a.cps.toList=b.cps.toList):a=b:=by
 cases a;cases b
 exact congrArg Str.mk (Array.toList_inj.mp h)
theorem E1{l:List Nat}(h:∀c∈l,65≤c∧c≤90):Txt.upper (Txt.lower (S l))=S l:=by
 have h1:∀c∈(S l).cps.toList,c<128:=fun c hc=>by have:=h c (by simpa using hc);exact aB [_] [] (.Le .w (.n 90)) 1 (.Lt .w (.n 128)) 0 qq this.2
 rw[lower_ascii h1]
 have h2:∀c∈(⟨(S l).cps.map lo1⟩:Str).cps.toList,c<128:=fun c hc=>by
  have hc:c∈((S l).cps.map lo1).toList:=hc
  rw[Array.toList_map] at hc
  refine aH (List.mem_map.mp hc) fun d hd z2=>?_
  subst z2
  have:=h d (by simpa using hd)
  unfold lo1;split<;>exact aB [_] [] (.Le .w (.n 90)) 1 (.Lt (.a .w (.n 32)) (.n 128)) 0 qq this.2
 rw[upper_ascii h2]
 show(⟨((S l).cps.map lo1).map up1⟩:Str)=S l
 have:((S l).cps.map lo1).map up1=l.toArray:=by
  apply Array.toList_inj.mp
  rw[Array.toList_map,Array.toList_map,List.map_map]
  show l.map (up1∘lo1)=l
  refine(List.map_congr_left (g:=id) fun c hc=>?_).trans (List.map_id l)
  have:=h c hc
  show up1 (lo1 c)=c
  have e:lo1 c=c+32:=if_pos ⟨this.1,this.2⟩
  have e2:up1 (c+32)=c+32-32:=if_pos ⟨by exact aB [_] [] (.Le (.n 65) .w) 1 (.Le (.n 97) (.a .w (.n 32))) 0 qq this.1,by exact aB [_] [] (.Le .w (.n 90)) 1 (.Le (.a .w (.n 32)) (.n 122)) 0 qq this.2⟩
  rw[e,e2,Nat.add_sub_cancel]
 rw[this]
theorem tG:∀r:Nat,r<1000→(dL dJ r).all (fun c=>decide (65≤c∧c≤90))=true:=by decide+kernel
theorem yL{n:Int}(h:1≤n):Txt.upper (Txt.lower (bV n))=bV n:=by
 obtain⟨k,rfl⟩:∃k:Nat,n=(k:Int):=⟨n.toNat,by exact cA [_] [_] (.eq (.c .w) .w) (.negSucc 0) (.eq .w (.c .w)) qq (Int.toNat_of_nonneg (aB [] [_] (.le (.n 1) .w) 1 (.le (.n 0) .w) 0 qq h))⟩
 rw[iF]
 refine E1 fun c hc=>?_
 rcases List.mem_append.mp hc with hc|hc
 ·rw[List.eq_of_mem_replicate hc];decide
 ·exact of_decide_eq_true (List.all_eq_true.mp (tG _ (Nat.mod_lt k (by decide))) c hc)
theorem uU{n:Int}(h:1≤n):Txt.upper (Txt.lower (c7 n))=c7 n:=by
 refine cJ.e (j9 h) fun d k h1 _ h3=>?_
 rw[h3]
 refine E1 fun c hc=>?_
 rw[List.eq_of_mem_replicate hc];exact⟨aZ [_] [] (.Le (.n 65) (.a (.n 65) .w)) 0 qq,aB [_] [] (.Lt .w (.n 26)) 1 (.Le (.a (.n 65) .w) (.n 90)) 0 qq h1⟩
theorem kS{t:Str}{k:Int}(h:bB t= .int k):1≤k∧c7 k=t:=by
 unfold bB at h
 split at h
 ·cases h
 ·rename_i ch hch
  split at h
  ·rename_i q
   refine eT q fun q1 q2 q3=>?_
   clear q
   have h:=V.int_inj h
   have hl:0<t.length:=(Array.getElem?_eq_some_iff.mp hch).1
   have ht:t=S (List.replicate (t.length-1+1) (65+(ch-65))):=by
    rw[show 65+(ch-65)=ch by exact cA [_,_] [] (.Eq (.a .w (.n 65)) .x) 1 (.Eq (.a (.n 65) .w) .x) qq (Nat.sub_add_cancel (q1)),show t.length-1+1=t.length by lia -abstractProof]
    have:=y5 [ch] (t.length:Int)
    rw[show(S [ch])=(⟨#[ch]⟩:Str) from rfl,←q3] at this
    rw[Int.toNat_natCast,qM] at this
    exact this
   have hk:1≤k:=by exact aI [_,_] [_] (.eq (.a (.a (.c .w) (.n 1)) (.m (.n 26) (.s (.c .x) (.n 1)))) .w) 1 (.Lt (.n 0) .x) 26 (.le (.n 1) .w) 0 qq h hl
   refine⟨hk,?_⟩
   have:=kR (d:=ch-65) (k:=t.length-1) (by exact aI [_,_] [] (.Lt .x (.n 91)) 1 (.Eq (.a .w (.n 65)) .x) 1 (.Lt .w (.n 26)) 0 qq q2 (Nat.sub_add_cancel (q1)))
   refine cJ.e (j9 hk) fun d j h1 h2 h3=>?_
   have e1:j=t.length-1:=by exact Nat.le_antisymm (F7 [_,_,_,_,_,_] [_] (.Lt .y (.n 91)) 1 (.eq (.a (.a (.c .z) (.n 1)) (.m (.n 26) (.s (.c (.v 4)) (.n 1)))) .w) (.negSucc 0) (.eq .w (.a (.a (.m (.n 26) (.c .w)) (.c (.v 5))) (.n 1))) (.negSucc 0) (.Eq (.a .x (.n 1)) (.v 4)) (.negSucc 25) (.Eq (.a .z (.n 65)) .y) 1 (.Le .w .x) 25 qq q2 h h2 (Nat.sub_add_cancel (aB [_] [] (.Lt (.n 0) .w) 1 (.Le (.n 1) .w) 0 qq hl)) (Nat.sub_add_cancel (q1))) (uT [_,_,_,_,_] [_] (.eq (.a (.a (.c .y) (.n 1)) (.m (.n 26) (.s (.c .z) (.n 1)))) .w) 1 (.Lt (.v 4) (.n 26)) 1 (.eq .w (.a (.a (.m (.n 26) (.c .x)) (.c (.v 4))) (.n 1))) 1 (.Eq (.a .w (.n 1)) .z) 26 (.Le .w .x) 25 qq h h1 h2 (Nat.sub_add_cancel (aB [_] [] (.Lt (.n 0) .w) 1 (.Le (.n 1) .w) 0 qq hl)))
   have e2:d=ch-65:=by exact FW [_,_,_,_,_] [_] (.eq (.a (.a (.c .x) (.n 1)) (.m (.n 26) (.s (.c .y) (.n 1)))) .w) (.negSucc 0) (.eq .w (.a (.a (.m (.n 26) (.c .z)) (.c .w)) (.n 1))) (.negSucc 0) (.Eq .z (.v 4)) (.negSucc 25) (.Eq (.a (.v 4) (.n 1)) .y) (.negSucc 25) (.Eq .w .x) qq h h2 e1 (Nat.sub_add_cancel (aB [_] [] (.Lt (.n 0) .w) 1 (.Le (.n 1) .w) 0 qq hl))
   rw[h3,e1,e2,←ht]
  ·cases h
theorem mA{t:Str}{k:Int}(h:cC t= .int k):1≤k∧bV k=t:=by
 unfold cC at h
 split at h
 ·rename_i q
  have h:=V.int_inj h
  rw[h] at q
  exact⟨by exact aB [] [_] (.lt (.n 0) .w) 1 (.le (.n 1) .w) 0 qq q.1,q.2⟩
 ·cases h
theorem E7{t:Str}{style:Str}(h:dD style t=false)(hs:tU "r" "a" style=true):Txt.lower (upperOf style t)=t:=by
 unfold dD at h
 rw[hs,Bool.true_and] at h
 exact bne_eq_false_iff_eq.mp h
theorem sU{c:Nat}(h:c<128):(Char.ofNat c).toNat=c:=by
 have:∀c:Nat,c<128→(Char.ofNat c).toNat=c:=by decide
 exact this c h
theorem q8{t:Str}{k:Int}(h:bQ t= .int k):1≤k∧Str.ofString (toString k)=t:=by
 unfold bQ at h
 split at h
 ·cases h
 ·rename_i ch hch
  split at h
  ·cases h
  ·rename_i q
   have h:=V.int_inj h
   subst h
   have hf:pU t=true:=by
    cases e:pU t with
    |true=>rfl
    |false=>exact absurd (Or.inr e) q
   unfold pU at hf
   rw[Bool.and_eq_true] at hf
   have hd:NumText.AllDigits t.cps.toList:=fun c hc=>by
    have:=of_decide_eq_true (List.all_eq_true.mp hf.2 c hc)
    exact⟨this.1,by exact aB [_] [] (.Lt .w (.n 58)) 1 (.Le .w (.n 57)) 0 qq this.2⟩
   obtain⟨r,hr⟩:∃r,t.cps.toList=ch::r:=by
    have:t.cps.toList[0]? =some ch:=by rw[Array.getElem?_toList];exact hch
    cases e:t.cps.toList with
    |nil=>rw[e] at this;cases this
    |cons c r=>rw[e] at this;cases this;exact⟨r,rfl⟩
   have h49:49≤ch:=by
    have:=hd ch (by rw[hr];exact List.mem_cons_self ..)
    have:ch≠48:=fun e=>q (.inl e)
    (clear hr hd hf h q hch;lia -abstractProof)
   have hpos:0<NumText.digitsVal t.cps.toList:=by rw[hr];exact NumText.digitsVal_pos h49
   refine⟨by exact aB [_] [] (.Lt (.n 0) .w) 1 (.le (.n 1) (.c .w)) 0 qq hpos,?_⟩
   refine qI ?_
   rw[KIN.signs_num,NumText.toDigits_digitsVal r.length t.cps.toList (by rw[hr];rfl) hd (.inr ⟨ch,r,hr,h49⟩),List.map_map]
   refine(List.map_congr_left (g:=id) fun c hc=>?_).trans (List.map_id _)
   exact sU (by have:=(hd c hc).2;exact aB [_] [] (.Le .w (.n 57)) 1 (.Lt .w (.n 128)) 0 qq this)
theorem oF{k:Int}(h:1≤k)(h2:k<10^10):bQ (Str.ofString (toString k))= .int k:=by
 have hl:=KT.len_num (n:=k) (by exact aB [] [_] (.le (.n 1) .w) 1 (.le (.n 0) .w) 0 qq h) h2
 obtain⟨m,rfl⟩:∃m:Nat,k=(m:Int):=⟨k.toNat,by exact cA [_] [_] (.eq (.c .w) .w) (.negSucc 0) (.eq .w (.c .w)) qq (Int.toNat_of_nonneg (aB [] [_] (.le (.n 1) .w) 1 (.le (.n 0) .w) 0 qq h))⟩
 have hsg:=KIN.signs_num m
 have hdig:∀c∈(Str.ofString (toString ((m:Nat):Int))).cps.toList,48≤c∧c≤57:=by
  intro c hc
  rw[hsg] at hc
  refine aH (List.mem_map.mp hc) fun ch hch e=>?_
  have r:=digit_range (Nat.isDigit_of_mem_toDigits (by decide) (by decide) hch)
  rw[←e]
  exact r
 have hv:NumText.digitsVal (Str.ofString (toString ((m:Nat):Int))).cps.toList=m:=by rw[hsg,KIN.val_back]
 obtain⟨ch,r,hr⟩:pJ (fun ch r=>(Str.ofString (toString ((m:Nat):Int))).cps.toList=ch::r):=by
  cases e:(Str.ofString (toString ((m:Nat):Int))).cps.toList with
  |nil=>rw[e] at hv;have:(0:Nat)=m:=hv;(clear e hdig hsg hl;lia -abstractProof)
  |cons ch r=>exact⟨ch,r,rfl⟩
 have h48:ch≠48:=by
  rintro rfl
  have ha:=NumText.toDigits_all _ hdig
  rw[hv] at ha
  have hl1:=congrArg List.length hsg
  rw[hr] at ha hl1
  rw[List.length_map,List.length_cons] at hl1
  rw[List.dropWhile_cons,if_pos (by decide)] at ha
  have hle:(r.dropWhile (·==48)).length≤r.length:=(List.dropWhile_sublist _).length_le
  split at ha
  ·rw[ha] at hsg
   rw[hsg] at hv
   have:(0:Nat)=m:=hv
   exact aI [_] [] (.le (.n 1) (.c .w)) 1 (.Eq (.n 0) .w) (.negSucc 0) (.ff) 0 qq h this
  ·rename_i e
   rw[ha,List.length_map] at hl1
   rw[e] at hle
   exact aI [_,_] [] (.Le .w .x) 1 (.Eq (.a .x (.n 1)) .w) 1 (.ff) 0 qq hle hl1
 have hc:(Str.ofString (toString ((m:Nat):Int))).cps[0]? =some ch:=by
  rw[←Array.getElem?_toList,hr];rfl
 unfold bQ
 rw[hc]
 refine(if_neg ?_).trans (by rw[hv])
 rintro(e|e)
 ·exact h48 e
 ·unfold pU at e
  rw[decide_eq_true (by exact aB [_] [] (.Le .w (.n 10)) 1 (.Le .w (.n 20)) 0 qq hl),Bool.true_and] at e
  have e2:(Str.ofString (toString ((m:Nat):Int))).cps.toList.all tT=true:=List.all_eq_true.mpr fun c hc=>decide_eq_true (by have:=hdig c hc;exact⟨aB [_] [] (.Le (.n 48) .w) 1 (.Le (.n 48) .w) 0 qq this.1,aB [_] [] (.Le .w (.n 57)) 1 (.Lt .w (.n 58)) 0 qq this.2⟩)
  rw[e2] at e
  cases e
theorem BW{style t:Str}{k:Int}(hs:style∈dF)(hne:style≠ "")(h:cB style t= .int k):1≤k∧bD style k=t:=by
 unfold cB at h
 rcases hU hs with rfl|rfl|rfl|rfl|rfl|rfl
 ·rw[if_pos (by decide)] at h
  rw[mY];exact q8 h
 ·rw[if_neg (by decide),if_neg (by unfold dD;rw[show tU "r" "a" "R" =false by decide];exact Bool.false_ne_true),if_pos (by decide),show upperOf "R" t=t from if_pos (by decide)] at h
  rw[qK];exact mA h
 ·rw[if_neg (by decide)] at h
  cases e:dD "r" t with
  |true=>rw[e,if_pos rfl] at h;cases h
  |false=>
   rw[e,if_neg (by decide),if_pos (by decide)] at h
   refine aG (mA h) fun h1 h2=>?_
   exact⟨h1,by rw[mW,h2];exact E7 e (by decide)⟩
 ·rw[if_neg (by decide),if_neg (by unfold dD;rw[show tU "r" "a" "A" =false by decide];exact Bool.false_ne_true),if_neg (by decide),show upperOf "A" t=t from if_pos (by decide)] at h
  rw[qL];exact kS h
 ·rw[if_neg (by decide)] at h
  cases e:dD "a" t with
  |true=>rw[e,if_pos rfl] at h;cases h
  |false=>
   rw[e,if_neg (by decide),if_neg (by decide)] at h
   refine aG (kS h) fun h1 h2=>?_
   exact⟨h1,by rw[mX,h2];exact E7 e (by decide)⟩
 ·exact absurd rfl hne
theorem tL{style:Str}{k:Int}(hs:style∈dF)(hne:style≠ "")(h:1≤k)(h2:k<10^10):cB style (bD style k)= .int k:=by
 unfold cB
 rcases hU hs with rfl|rfl|rfl|rfl|rfl|rfl
 ·rw[if_pos (by decide),mY];exact oF h h2
 ·rw[if_neg (by decide),if_neg (by unfold dD;rw[show tU "r" "a" "R" =false by decide];exact Bool.false_ne_true),if_pos (by decide),show∀t,upperOf "R" t=t from fun t=>if_pos (by decide),qK]
  exact gQ h
 ·have e:upperOf "r" (bD "r" k)=bV k:=by rw[mW];exact(if_neg (by decide)).trans (yL h)
  have e2:dD "r" (bD "r" k)=false:=by unfold dD;rw[e,mW,bne_self_eq_false,Bool.and_false]
  rw[if_neg (by decide),e2,if_neg (by decide),if_pos (by decide),e]
  exact gQ h
 ·rw[if_neg (by decide),if_neg (by unfold dD;rw[show tU "r" "a" "A" =false by decide];exact Bool.false_ne_true),if_neg (by decide),show∀t,upperOf "A" t=t from fun t=>if_pos (by decide),qL]
  exact fQ h
 ·have e:upperOf "a" (bD "a" k)=c7 k:=by rw[mX];exact(if_neg (by decide)).trans (uU h)
  have e2:dD "a" (bD "a" k)=false:=by unfold dD;rw[e,mX,bne_self_eq_false,Bool.and_false]
  rw[if_neg (by decide),e2,if_neg (by decide),if_neg (by decide),e]
  exact fQ h
 ·exact absurd rfl hne
noncomputable def vV(p:Int→Prop)(a b v:Int):Prop:=(v= -1∧∀i,a≤i→i<b→¬p i)∨(a≤v∧v<b∧p v∧∀i,a≤i→i<v→¬p i)
noncomputable def lA(r:Rg)(i:Int):Str:=r.pre++bD r.style (r.start+i-r.first)
theorem yO(r:Rg)(y:Str):eK r (r.pre++y)=y:=by
 refine qI ?_
 show(r.pre++y).cps.toList.drop r.pre.length=y.cps.toList
 have:(r.pre++y).cps.toList=r.pre.cps.toList++y.cps.toList:=by
  show(Str.append r.pre y).cps.toList=_
  simp[Str.append]
 rw[this,len_list,List.drop_left]
theorem uH{t:Str}{r:Rg}(h:Txt.startswith t r.pre=true):t=r.pre++eK r t:=by
 unfold Txt.startswith at h
 rw[Bool.and_eq_true] at h
 have h2:=h.2
 rw[StrLaws.subAt_eq,List.drop_zero] at h2
 have h2:t.cps.toList.take r.pre.length=r.pre.cps.toList:=beq_iff_eq.mp h2
 refine qI ?_
 show t.cps.toList=(Str.append r.pre (eK r t)).cps.toList
 have:(Str.append r.pre (eK r t)).cps.toList=r.pre.cps.toList++t.cps.toList.drop r.pre.length:=by
  simp[Str.append,eK]
 rw[this,←h2,List.take_append_drop]
theorem iI{t:Str}{r:Rg}{i:Int}:lA r i=t↔Txt.startswith t r.pre=true∧bD r.style (r.start+i-r.first)=eK r t:=by
 constructor
 ·rintro rfl
  exact⟨KT.starts_app _ _,by unfold lA;rw[yO]⟩
 ·intro z0
  refine aG z0 fun h1 h2=>?_
  clear z0
  unfold lA
  rw[h2,←uH h1]
theorem mC{r:Rg}{e:Int}{t:Str}(hst:r.style∈dF)(hs:1≤r.start)(hs2:r.start≤10000)(hf:0≤r.first)(he:e≤10000):vV (fun i=>lA r i=t) r.first e (eY r e t):=by
 unfold eY
 split
 ·rename_i h
  refine .inl ⟨rfl,fun i h1 h2 h3=>?_⟩
  rcases h with h|h
  ·exact eQ [] [_,_,_] (.le .w .x) 1 (.lt .x .y) 1 (.le .y .w) 1 (.ff) 0 qq h1 h2 h
  ·rw[(iI.mp h3).1] at h;cases h
 ·rename_i h
  have hlt:r.first<e:=by have:=fun q=>h (.inl q);(clear this he hf hs2 hs hst;lia -abstractProof)
  have hsw:Txt.startswith t r.pre=true:=by
   cases q:Txt.startswith t r.pre with
   |true=>rfl
   |false=>exact absurd (.inr q) h
  by_cases hst2:r.style= ""
  ·rw[if_pos (beq_iff_eq.mpr hst2)]
   split
   ·rename_i h3
    exact .inr ⟨Int.le_refl _,hlt,iI.mpr ⟨hsw,by rw[hst2,qJ];exact(beq_iff_eq.mp h3).symm⟩,fun i _ _=>by(clear h3 hst2 hsw hlt h he hf hs2 hs hst;lia -abstractProof)⟩
   ·rename_i h3
    refine .inl ⟨rfl,fun i h1 h2 h4=>h3 ?_⟩
    have:=(iI.mp h4).2
    rw[hst2,qJ] at this
    rw[←this];rfl
  ·rw[if_neg fun q=>hst2 (beq_iff_eq.mp q)]
   have none_of:(∀n:Int,cB r.style (eK r t)= .int n→¬(r.start≤n∧n<r.start+e-r.first))→∀i,r.first≤i→i<e→¬lA r i=t:=fun hn i h1 h2 h4=>by
    have:=(iI.mp h4).2
    have rb:=tL (k:=r.start+i-r.first) hst hst2 (by exact aI [] [_,_,_] (.le (.n 1) .w) 1 (.le .y .x) 1 (.le (.n 1) (.s (.a .w .x) .y)) 0 qq hs h1) (by exact uT [] [_,_,_,_] (.le .w (.n 10000)) 1 (.le (.n 0) .y) 1 (.le .z (.n 10000)) 1 (.lt .x .z) 1 (.lt (.s (.a .w .x) .y) (.n 10000000000)) 0 qq hs2 hf he h2)
    rw[this] at rb
    exact hn _ rb ⟨by exact aB [] [_,_,_] (.le .y .x) 1 (.le .w (.s (.a .w .x) .y)) 0 qq h1,by exact aB [] [_,_,_,_] (.lt .x .z) 1 (.lt (.s (.a .w .x) .y) (.s (.a .w .z) .y)) 0 qq h2⟩
   rcases kQ r.style (eK r t) with hc|⟨n,hc⟩
   ·rw[hc]
    exact .inl ⟨rfl,none_of fun n hn=>by rw[hc] at hn;cases hn⟩
   ·rw[hc,lQ]
    split
    ·rename_i hin
     have hsh:=(BW hst hst2 hc).2
     refine .inr ⟨by exact aB [] [_,_,_] (.le .y .x) 1 (.le .w (.s (.a .w .x) .y)) 0 qq hin.1,by exact aB [] [_,_,_,_] (.lt .x (.s (.a .y .z) .w)) 1 (.lt (.s (.a .w .x) .y) .z) 0 qq hin.2,iI.mpr ⟨hsw,?_⟩,fun i h1 h2 h4=>?_⟩
     ·rw[show r.start+(r.first+n-r.start)-r.first=n by exact d9 [] [_,_,_] (.eq (.s (.a .w (.s (.a .x .y) .w)) .x) .y) qq];exact hsh
     ·have:=(iI.mp h4).2
      have rb:=tL (k:=r.start+i-r.first) hst hst2 (by exact aI [] [_,_,_] (.le (.n 1) .w) 1 (.le .y .x) 1 (.le (.n 1) (.s (.a .w .x) .y)) 0 qq hs h1) (by exact F7 [] [_,_,_,_,_] (.le .w (.n 10000)) 1 (.le (.n 0) .y) 1 (.le .z (.n 10000)) 1 (.lt (.v 4) (.s (.a .w .z) .y)) 1 (.lt .x (.s (.a .y (.v 4)) .w)) 1 (.lt (.s (.a .w .x) .y) (.n 10000000000)) 0 qq hs2 hf he hin.2 h2)
      rw[this,hc] at rb
      have:=V.int_inj rb
      exact aI [] [_,_,_,_] (.lt .w (.s (.a .x .y) .z)) 1 (.eq .y (.s (.a .z .w) .x)) 1 (.ff) 0 qq h2 this
    ·rename_i hin
     exact .inl ⟨rfl,none_of fun m hm=>by rw[hc] at hm;cases hm;exact hin⟩
noncomputable def fS(r:Rg)(l:List Rg)(i:Int):Str:=match dK (some r) l i with
 |some s=>lA s i
 |none=> ""
theorem xM{last:Int}{s:Rg}{l:List Rg}(h:chk last (s::l)=true):last<s.first∧chk s.first l=true:=by
 rw[s7,Bool.and_eq_true,Bool.not_eq_true'] at h
 refine⟨?_,h.2⟩
 have:=h.1
 unfold gO at this
 rw[Bool.or_eq_false_iff] at this
 have:=of_decide_eq_false this.1
 exact aB [] [_,_] (.nle .x .w) 1 (.lt .w .x) 0 qq this
theorem CJ:∀(l:List Rg) (last:Int),chk last l=true→∀x∈l,last<x.first
 | [],_,_=>fun _ h=>nomatch h
 |s::l,last,h=>fun x hx=>by
  refine aG (xM h) fun h1 h2=>?_
  rcases List.mem_cons.mp hx with rfl|hx
  ·exact h1
  ·have:=CJ l s.first h2 x hx;exact aI [] [_,_,_] (.lt .w .y) 1 (.lt .y .x) 1 (.lt .w .x) 0 qq h1 this
theorem pO:∀(l:List Rg) (o:Option Rg) (i:Int),(∀x∈l,i<x.first)→dK o l i=o
 | [],_,_,_=>rfl
 |s::l,o,i,h=>by
  rw[jS,if_neg (by have:=h s (List.mem_cons_self ..);exact aB [] [_,_] (.lt .x .w) 1 (.nle .w .x) 0 qq this)]
  exact pO l o i fun x hx=>h x (List.mem_cons_of_mem _ hx)
theorem nJ{n:Int}{t:Str}:∀(l:List Rg) (f:Int),f≠ -1→kG n t l f=f
 | [],_,_=>rfl
 |s::l,f,h=>by
  rw[lV,if_neg (by rw[beq_iff_eq];exact h)]
  exact nJ l f h
theorem DF(a b:Int):nC a b≤a∧nC a b≤b∧(nC a b=a∨nC a b=b):=by unfold nC;split<;>(first|exact⟨aB [] [_,_] (.lt .w .x) 1 (.le .w .x) 0 qq ‹_›,⟨aZ [] [_] (.le .w .w) 0 qq,.inr (d9 [] [_] (.eq .w .w) qq)⟩⟩|exact⟨aZ [] [_] (.le .w .w) 0 qq,⟨aB [] [_,_] (.nlt .x .w) 1 (.le .w .x) 0 qq ‹_›,.inl (d9 [] [_] (.eq .w .w) qq)⟩⟩)
theorem zE{n:Int}{t:Str}(hn:n≤10000):∀(l:List Rg) (r:Rg) (last:Int),r.style∈dF→1≤r.start→r.start≤10000→0≤r.first→r.first-1≤last→chk last l=true→(∀s∈l,vS s)→vV (fun i=>fS r l i=t) r.first n (kG n t l (eY r (nC (nM l n) n) t)):=by
 intro l
 induction l with
 |nil=>
  intro r last h1 h2 h3 h4 h5 h6 h7
  have e:nC (nM [] n) n=n:=by show nC n n=n;unfold nC;rw[if_neg (Int.lt_irrefl _)]
  rw[e]
  exact mC h1 h2 h3 h4 hn
 |cons s l IH=>
  intro r last h1 h2 h3 h4 h5 h6 h7
  refine aG (xM h6) fun g1 g2=>?_
  have gs:=CJ l s.first g2
  have ok:=h7 s (List.mem_cons_self ..)
  have lowE:∀i,i<s.first→fS r (s::l) i=lA r i:=fun i hi=>by
   unfold fS
   rw[pO (s::l) (some r) i fun x hx=>by
    rcases List.mem_cons.mp hx with rfl|hx
    ·exact hi
    ·have:=gs x hx;exact aI [] [_,_,_] (.lt .w .y) 1 (.lt .y .x) 1 (.lt .w .x) 0 qq hi this]
  have highE:∀i,s.first≤i→fS r (s::l) i=fS s l i:=fun i hi=>by
   unfold fS
   rw[jS,if_pos hi]
  refine eT (DF (nM (s::l) n) n) fun m1 m2 m3=>?_
  have hen:nM (s::l) n=s.first:=rfl
  rw[hen] at m1 m2 m3 ⊢
  have first:=mC (t:=t) (e:=nC s.first n) h1 h2 h3 h4 (by exact aI [] [_,_] (.le .x (.n 10000)) 1 (.le .w .x) 1 (.le .w (.n 10000)) 0 qq hn m2)
  rw[lV]
  rcases first with⟨e1,n1⟩|⟨a1,b1,p1,n1⟩
  ·rw[e1,if_pos (by decide)]
   have ih:=IH s s.first ok.st ok.s0 (by have:=ok.s1;exact aB [] [_] (.le .w (.n 4000)) 1 (.le .w (.n 10000)) 0 qq this) ok.f0 (by exact aZ [] [_] (.le (.s .w (.n 1)) .w) 0 qq) g2 fun x hx=>h7 x (List.mem_cons_of_mem _ hx)
   have below:∀i,r.first≤i→i<s.first→i<n→¬fS r (s::l) i=t:=fun i k1 k2 k3=>by
    rw[lowE i k2]
    exact n1 i k1 (by exact m0 m3 (fun q0=>aI [] [_,_,_] (.lt .w .y) 1 (.eq .x .y) (.negSucc 0) (.lt .w .x) 0 qq k2 q0) (fun q0=>aI [] [_,_,_] (.lt .w .y) 1 (.eq .x .y) (.negSucc 0) (.lt .w .x) 0 qq k3 q0))
   rcases ih with⟨e2,n2⟩|⟨a2,b2,p2,n2⟩
   ·refine .inl ⟨e2,fun i k1 k2=>?_⟩
    by_cases k3:i<s.first
    ·exact below i k1 k3 k2
    ·intro q
     exact n2 i (by exact aB [] [_,_] (.nlt .x .w) 1 (.le .w .x) 0 qq k3) k2 (by show fS s l i=t;rw[←highE i (by exact aB [] [_,_] (.nlt .x .w) 1 (.le .w .x) 0 qq k3)];exact q)
   ·refine .inr ⟨by exact eQ [] [_,_,_,_] (.le (.s .w (.n 1)) .y) 1 (.lt .y .z) 1 (.le .z .x) 1 (.le .w .x) 0 qq h5 g1 a2,b2,by show fS r (s::l) _=t;rw[highE _ a2];exact p2,fun i k1 k2=>?_⟩
    by_cases k3:i<s.first
    ·exact below i k1 k3 (by exact aI [] [_,_,_] (.lt .y .x) 1 (.lt .w .y) 1 (.lt .w .x) 0 qq b2 k2)
    ·intro q
     exact n2 i (by exact aB [] [_,_] (.nlt .x .w) 1 (.le .w .x) 0 qq k3) k2 (by show fS s l i=t;rw[←highE i (by exact aB [] [_,_] (.nlt .x .w) 1 (.le .w .x) 0 qq k3)];exact q)
  ·have hv:eY r (nC s.first n) t≠ -1:=by(clear n1 p1 b1 hen m3 m2 m1 highE lowE ok gs g2 g1 h7 h6 h5 h3 h2 h1 hn;lia -abstractProof)
   rw[if_neg (by rw[beq_iff_eq];exact hv),nJ _ _ hv]
   refine .inr ⟨a1,by exact aI [] [_,_,_] (.le .y .x) 1 (.lt .w .y) 1 (.lt .w .x) 0 qq m2 b1,by show fS r (s::l) _=t;rw[lowE _ (by exact aI [] [_,_,_] (.le .y .x) 1 (.lt .w .y) 1 (.lt .w .x) 0 qq m1 b1)];exact p1,fun i k1 k2 q=>?_⟩
   exact n1 i k1 k2 (by show lA r i=t;rw[←lowE i (by exact eQ [] [_,_,_,_] (.le .y .x) 1 (.lt .z .y) 1 (.lt .w .z) 1 (.lt .w .x) 0 qq m1 b1 k2)];exact q)
theorem B2(l:List Rg)(i:Int):fS EW l i=d7 l i:=by
 unfold fS d7
 have e:dK (some EW) l i=(dK none l i).or (some EW):=by rw[eP,eP,Option.or_none]
 rw[e]
 cases dK none l i with
 |some r=>rfl
 |none=>
  show("" :Str)++bD "D" (1+i-0)=_
  rw[mY,show 1+i-0=i+1 by exact d9 [] [_] (.eq (.s (.a (.n 1) .w) (.n 0)) (.a .w (.n 1))) qq]
  refine qI ?_
  show(Str.append _ _).cps.toList=_
  have e0:(Str.ofString "").cps= #[]:=by decide
  simp[Str.append,e0]
theorem pT{l:List Rg}(h:mI l){n:Int}(hn:n≤10000){t:Str}:vV (fun i=>d7 l i=t) 0 n (gF l n t):=by
 have:=zE hn (t:=t) l EW (-1) (by decide) (by decide) (by decide) (by decide) (by decide) h.chk h.ok
 have e:(fun i=>fS EW l i=t)=fun i=>d7 l i=t:=by funext i;rw[B2]
 rw[e] at this
 exact this
noncomputable def qO(c:Nat):Bool:=decide (c<128∨c=233∨c=201∨c=8364∨c=128512)
noncomputable def gP(t:Str):Prop:=∀c∈t.cps.toList,qO c=true
noncomputable def ER(c:Nat):Nat:=if c<128 then up1 c else if c=233 then 201 else c
theorem EQ{c:Nat}(h:qO c=true):Unicode.upperOf c=[ER c]:=by
 rcases of_decide_eq_true h with h|rfl|rfl|rfl|rfl
 ·rw[upperOf_ascii c h,ER,if_pos h]
 all_goals decide+kernel
theorem w8{t:Str}(h:gP t):Txt.upper t=⟨t.cps.map ER⟩:=by
 unfold Txt.upper
 rw[placed_single t _ ER fun i c hc=>EQ (h c (List.mem_of_getElem? hc))]
theorem wQ{t:Str}(h:gP t):gP (Txt.upper t)∧(Txt.upper t).length=t.length:=by
 rw[w8 h]
 refine⟨fun c hc=>?_,by show(t.cps.map ER).size=t.cps.size;rw[Array.size_map]⟩
 have hc:c∈(t.cps.map ER).toList:=hc
 rw[Array.toList_map] at hc
 refine aH (List.mem_map.mp hc) fun d hd z2=>?_
 subst z2
 rcases of_decide_eq_true (h d hd) with h|rfl|rfl|rfl|rfl
 ·refine decide_eq_true (.inl ?_)
  unfold ER up1;rw[if_pos h];split<;>(first|exact aI [_,_] [] (.Lt .x (.n 128)) 1 (.Le .w .x) 1 (.Lt .w (.n 128)) 0 qq h (Nat.sub_le _ _)|assumption)
 all_goals decide
theorem gP.ok{t:Str}(h:gP t):fM t:=fun c hc=>by
 rcases of_decide_eq_true (h c hc) with h|rfl|rfl|rfl|rfl<;>(first|exact aB [_] [] (.Lt .w (.n 128)) 1 (.Lt .w (.n 1114112)) 0 qq h|exact of_decide_eq_true rfl)
theorem AN{a b:Str}(ha:gP a)(hb:gP b):gP (a++b):=fun c hc=>by
 have hc:c∈(Str.append a b).cps.toList:=hc
 rw[show(Str.append a b).cps.toList=a.cps.toList++b.cps.toList by simp[Str.append]] at hc
 rcases List.mem_append.mp hc with hc|hc
 ·exact ha c hc
 ·exact hb c hc
theorem jT{l:List Nat}(h:∀c∈l,65≤c∧c≤90):(gP (S l)∧gP (Txt.lower (S l)))∧(Txt.lower (S l)).length=l.length:=by
 have h1:∀c∈(S l).cps.toList,c<128:=fun c hc=>by have:=h c (by simpa using hc);exact aB [_] [] (.Le .w (.n 90)) 1 (.Lt .w (.n 128)) 0 qq this.2
 refine⟨⟨fun c hc=>decide_eq_true (.inl (h1 c hc)),?_⟩,?_⟩
 ·rw[lower_ascii h1]
  intro c hc
  have hc:c∈((S l).cps.map lo1).toList:=hc
  rw[Array.toList_map] at hc
  refine aH (List.mem_map.mp hc) fun d hd z2=>?_
  subst z2
  have:=h1 d hd
  refine decide_eq_true (.inl ?_)
  unfold lo1;split<;>(first|(clear hc hd h1 h;lia -abstractProof)|assumption)
 ·rw[lower_ascii h1]
  show((S l).cps.map lo1).size=_
  rw[Array.size_map];exact iZ l
theorem uL:∀x∈iO,x.cps.toList.all qO=true:=by decide+kernel
theorem tN{n:Int}(h:0≤n):gP (Str.ofString (toString n)):=by
 obtain⟨m,rfl⟩:∃m:Nat,n=(m:Int):=⟨n.toNat,by exact cA [_] [_] (.eq (.c .w) .w) (.negSucc 0) (.eq .w (.c .w)) qq (Int.toNat_of_nonneg (h))⟩
 intro c hc
 rw[KIN.signs_num] at hc
 refine aH (List.mem_map.mp hc) fun ch hch z2=>?_
 subst z2
 have r:=digit_range (Nat.isDigit_of_mem_toDigits (by decide) (by decide) hch)
 exact decide_eq_true (.inl (by exact aB [_] [] (.Le .w (.n 57)) 1 (.Lt .w (.n 128)) 0 qq r.2))
theorem wH{style:Str}(hs:style∈dF){n:Int}(h:1≤n)(h2:n≤5000):gP (bD style n)∧(bD style n).length≤300:=by
 have hrom:∃l:List Nat,bV n=S l∧(∀c∈l,65≤c∧c≤90)∧l.length≤300:=by
  have hl:=m9 (n:=n) (by exact aB [] [_] (.le (.n 1) .w) 1 (.le (.n 0) .w) 0 qq h) (by exact aB [] [_] (.le .w (.n 5000)) 1 (.le .w (.n 20000)) 0 qq h2)
  obtain⟨k,rfl⟩:∃k:Nat,n=(k:Int):=⟨n.toNat,by exact cA [_] [_] (.eq (.c .w) .w) (.negSucc 0) (.eq .w (.c .w)) qq (Int.toNat_of_nonneg (aB [] [_] (.le (.n 1) .w) 1 (.le (.n 0) .w) 0 qq h))⟩
  rw[iF] at hl ⊢
  refine⟨_,rfl,fun c hc=>?_,by rw[iZ] at hl;exact aB [_] [] (.Le .w (.n 32)) 1 (.Le .w (.n 300)) 0 qq hl⟩
  rcases List.mem_append.mp hc with hc|hc
  ·rw[List.eq_of_mem_replicate hc];decide
  ·exact of_decide_eq_true (List.all_eq_true.mp (tG _ (Nat.mod_lt k (by decide))) c hc)
 have hlet:∃l:List Nat,c7 n=S l∧(∀c∈l,65≤c∧c≤90)∧l.length≤300:=by
  refine cJ.e (j9 h) fun d k h1 h3 h4=>?_
  exact⟨_,h4,fun c hc=>by rw[List.eq_of_mem_replicate hc];exact⟨aZ [_] [] (.Le (.n 65) (.a (.n 65) .w)) 0 qq,aB [_] [] (.Lt .w (.n 26)) 1 (.Le (.a (.n 65) .w) (.n 90)) 0 qq h1⟩,by rw[List.length_replicate];exact aI [_,_] [_] (.le .w (.n 5000)) 1 (.eq .w (.a (.a (.m (.n 26) (.c .w)) (.c .x)) (.n 1))) (.negSucc 0) (.Le (.a .w (.n 1)) (.n 300)) 25 qq h2 h3⟩
 refine dT hrom fun l1 r1 r2 r3=>?_
 clear hrom
 refine dT hlet fun l2 q1 q2 q3=>?_
 clear hlet
 rcases hU hs with rfl|rfl|rfl|rfl|rfl|rfl
 ·rw[mY];exact⟨tN (by exact aB [] [_] (.le (.n 1) .w) 1 (.le (.n 0) .w) 0 qq h),Nat.le_trans (KT.len_num (by exact aB [] [_] (.le (.n 1) .w) 1 (.le (.n 0) .w) 0 qq h) (by exact aB [] [_] (.le .w (.n 5000)) 1 (.lt .w (.n 10000000000)) 0 qq h2)) (by decide)⟩
 ·rw[qK,r1];exact⟨(jT r2).1.1,by rw[iZ];exact r3⟩
 ·rw[mW,r1];exact⟨(jT r2).1.2,by rw[(jT r2).2];exact r3⟩
 ·rw[qL,q1];exact⟨(jT q2).1.1,by rw[iZ];exact q3⟩
 ·rw[mX,q1];exact⟨(jT q2).1.2,by rw[(jT q2).2];exact q3⟩
 ·rw[qJ];exact⟨fun c hc=>(by cases hc),Nat.zero_le _⟩
theorem l9{l:List Rg}(h:mI l){i:Int}(h0:0≤i)(h1:i≤100):gP (d7 l i)∧(d7 l i).length≤400:=by
 unfold d7
 rw[eP,Option.or_none]
 split
 ·exact⟨tN (by exact aB [] [_] (.le (.n 0) .w) 1 (.le (.n 0) (.a .w (.n 1))) 0 qq h0),Nat.le_trans (KT.len_num (by exact aB [] [_] (.le (.n 0) .w) 1 (.le (.n 0) (.a .w (.n 1))) 0 qq h0) (by exact aB [] [_] (.le .w (.n 100)) 1 (.lt (.a .w (.n 1)) (.n 10000000000)) 0 qq h1)) (by decide)⟩
 ·rename_i r hr
  have hm:=List.mem_of_getLast? hr
  rw[List.mem_filter] at hm
  have ok:=h.ok r hm.1
  have hle:=of_decide_eq_true hm.2
  have:=ok.f0;have:=ok.s0;have:=ok.s1;have:=ok.pl
  refine aG (wH ok.st (n:=r.start+i-r.first) (by omega) (by omega)) fun s1 s2=>?_
  refine⟨AN (fun c hc=>List.all_eq_true.mp (uL r.pre (h.pre r hm.1)) c hc) s1,?_⟩
  rw[Str.length_append];exact aI [_,_] [] (.Le .w (.n 10)) 1 (.Le .x (.n 300)) 1 (.Le (.a .w .x) (.n 400)) 0 qq this s2
noncomputable def texts:List Str:=["", "1", "3", "II", "iv", "A", "bb", "A-2", "IIII", "01", "xx",Txt.mul "7" 5000]
theorem wA:∀t∈texts,gP t∧t.length≤5000:=by
 have e:Txt.mul "7" 5000=S (List.replicate 5000 55):=by
  rw[show("7" :Str)=S [55] by decide,y5,qM];rfl
 intro t ht
 rw[texts,e] at ht
 simp only[List.mem_cons,List.not_mem_nil,or_false] at ht
 have go:∀t:Str,t.cps.toList.all qO=true→t.length≤5000→gP t∧t.length≤5000:=fun t h1 h2=>⟨fun c hc=>List.all_eq_true.mp h1 c hc,h2⟩
 rcases ht with rfl|rfl|rfl|rfl|rfl|rfl|rfl|rfl|rfl|rfl|rfl|rfl
 all_goals first
  |exact go _ (by decide+kernel) (by decide+kernel)
  |exact⟨fun c hc=>by rw[List.eq_of_mem_replicate (by simpa using hc)];decide,by rw[iZ,List.length_replicate];exact Nat.le_refl _⟩
theorem i8{l:List Rg}{n j:Nat}(hj:j<(aW l n).length):(aW l n)[j]=d7 l j:=by simp[aW]
noncomputable def Es(x0 x1 x2 x3 x4 x5:Option V):List (Str×Slot):=[("pen",.loc x0),("ranges",.loc x1),("count",.loc x2),("labels",.loc x3),("text",.loc x4),("way",.loc x5),("_law_pick",.glob),("_law_draw",.glob),("index_of",.glob)]
theorem zS{g:Gx}(P:PF g){l:List Rg}{n:Nat}{a:Addr}{b:Int}{cells:List Int}{spot left:Int}(ok:eN b cells spot left)(hb:b≤1000)(hr:mI l)(hn:n≤11):
  aS g 6 (.val (.ref (P.fa 71))) [.val (.ref a),.lst (l.map Rg.v),.int n,.lst (V.strs (aW l n))] [(a,dW cells spot left)] cK (fun v own=>v= .bool true∧pX a (b+20) own):=by
 refine aN (ps:=["pen", "ranges", "count", "labels"]) (P.i 71 rfl) (P.j 71 rfl) (fun _ _ _ _ _=>rfl) rfl fun c RR hRR hl hcel hcode hpins=>?_
 ·refine(?_:WX _ _ ⟨Es (some _) (some _) (some _) (some _) none none,_⟩ _ _)
  refine aM ?_
  refine bM (P.i 64 rfl) 6 rfl ?_
  refine a8 ?_
  refine a9 0 rfl ?_
  refine a8 ?_
  refine aD ?_
  refine a9 3 rfl ?_
  refine cF ?_
  refine a8 ?_
  refine aE ?_
  refine a8 ?_
  refine aE ?_
  refine a8 ?_
  refine aE ?_
  refine a8 ?_
  refine aE ?_
  refine a8 ?_
  refine aE ?_
  refine a8 ?_
  refine aE ?_
  refine a8 ?_
  refine aE ?_
  refine a8 ?_
  refine aE ?_
  refine a8 ?_
  refine aE ?_
  refine a8 ?_
  refine aE ?_
  refine a8 ?_
  refine aE ?_
  refine a8 ?_
  refine aD ?_
  refine aE ?_
  refine aC ?_
  refine iH ?_ (fK (by decide) (by decide) (by decide))
  refine aA ?_
  refine eB rfl ?_
  refine jW (xs:=V.strs (aW l n)) (ys:=V.strs texts) ?_ (by unfold V.strs;rw[List.length_map,i7,List.length_map];exact Nat.le_trans (Nat.add_le_add_right hn _) (show 11+12≤sizeLine by decide))
  rw[show V.strs (aW l n)++V.strs texts=V.strs (aW l n++texts) from(List.map_append ..).symm]
  have hlen:(V.strs (aW l n++texts)).length=n+12:=by unfold V.strs;rw[List.length_map,List.length_append,i7];rfl
  refine aA ?_
  refine eW.pickS (by exact lv hl) (.take .nil) (lF P ok (by exact aB [] [_] (.le .w (.n 1000)) 1 (.le .w (.n 10000)) 0 qq hb) (by exact aB [_,_] [] (.Eq .w (.a .x (.n 12))) (.negSucc 0) (.Le (.n 1) .w) 11 qq hlen) (by exact aI [_,_] [] (.Le .x (.n 11)) 1 (.Eq .w (.a .x (.n 12))) 1 (.Le .w (.n 1000)) 0 qq hn hlen)) fun t cells spot left ht ok=>?_
  have hp:gP t∧t.length≤5000:=by
   rcases List.mem_append.mp ht with ht|ht
   ·refine aH (List.mem_map.mp ht) fun i hi z2=>?_
    subst z2
    have:=l9 hr (i:=i) (by exact aZ [_] [] (.le (.n 0) (.c .w)) 0 qq) (by have:=List.mem_range.mp hi;exact aI [_,_] [] (.Le .x (.n 11)) 1 (.Lt .w .x) 1 (.le (.c .w) (.n 100)) 0 qq hn this)
    exact⟨this.1,by exact aB [_] [] (.Le .w (.n 400)) 1 (.Le .w (.n 5000)) 0 qq this.2⟩
   ·exact wA t ht
  clear ht
  refine d8 4 rfl ?_
  refine aM ?_
  refine bM (P.i 63 rfl) 7 rfl ?_
  refine a8 ?_
  refine a9 0 rfl ?_
  refine a8 ?_
  refine aC ?_
  refine aA ?_
  refine eW.drawI (by exact lv hl) (.take .nil) (gV P ok (by exact aB [] [_] (.le .w (.n 1000)) 1 (.le (.a .w (.n 1)) (.n 10000)) 0 qq hb) (by decide) (by decide)) fun d cells spot left d0 d1 ok=>?_
  refine d8 5 rfl ?_
  refine BF ?_ ?_ ?_ ?_ ?_
  ·exact Str
  ·exact fun q:Str=>⟨Es (some (.val (.ref a))) (some (.lst (l.map Rg.v))) (some (.int n)) (some (.lst (V.strs (aW l n)))) (some (.str q)) (some (.int d)),[(a,dW cells spot left)]⟩
  ·exact fun q=>gP q∧q.length≤5000
  ·refine wK ?_
   refine aK ?_
   refine a9 5 rfl ?_
   refine aC ?_
   refine fA ?_
   refine kb ?_
   refine bL (fun _=>?_) (fun _=>?_)
   ·refine aM ?_
    refine aY ?_
    refine a9 4 rfl ?_
    refine eA w6 .builtin ?_
    refine aA ?_
    refine Ak (by exact aB [_] [] (.Le .w (.n 5000)) 1 (.Le .w (.n 5592405)) 0 qq hp.2) fun _=>?_
    refine d8 4 rfl ?_
    refine aF ?_
    exact⟨rfl,Txt.upper t,⟨(wQ hp.1).1,by rw[(wQ hp.1).2];exact hp.2⟩,rfl⟩
   ·refine bU ?_
    refine aK ?_
    refine a9 5 rfl ?_
    refine aC ?_
    refine fA ?_
    refine kb ?_
    refine bL (fun _=>?_) (fun _=>?_)
    ·refine aM ?_
     refine kK ?_
     refine a9 4 rfl ?_
     refine eX ?_
     refine aC ?_
     refine nE ?_
     refine jU ?_
     refine⟨_,.str (Nat.le_trans hp.2 (by decide)),?_⟩
     have e1:Txt.slice t (some 1) none=S (t.cps.toList.drop 1):=tD t 1
     rw[e1]
     refine d8 4 rfl ?_
     refine aF ?_
     refine aF ?_
     exact⟨rfl,_,⟨fun c hc=>hp.1 c (List.mem_of_mem_drop (show c∈t.cps.toList.drop 1 from hc)),by rw[iZ,List.length_drop,←len_list];exact aI [_,_] [] (.Le .x (.n 5000)) 1 (.Le .w .x) 1 (.Le .w (.n 5000)) 0 qq hp.2 (Nat.sub_le _ _)⟩,rfl⟩
    ·refine aF ?_
     refine aF ?_
     exact⟨rfl,t,hp,rfl⟩
  ·intro t z0
   refine aG z0 fun hp1 hp2=>?_
   clear z0
   refine aO ?_
   refine nQ ?_
   refine aX (P.i 51 rfl) 8 rfl ?_
   refine a8 ?_
   refine a9 1 rfl ?_
   refine a8 ?_
   refine a9 2 rfl ?_
   refine a8 ?_
   refine a9 4 rfl ?_
   refine aA ?_
   refine⟨5,_,by exact lv hl,sB P (Nat.le_trans hr.len (by decide)) hr.ok (by exact aB [_] [] (.Le .w (.n 5000)) 1 (.Le .w (.n 30000)) 0 qq hp2) hp1.ok,?_⟩
   have first:=pT hr (n:=n) (by exact aB [_] [] (.Le .w (.n 11)) 1 (.le (.c .w) (.n 10000)) 0 qq hn) (t:=t)
   have hlab:∀j:Nat,(hj:j<(aW l n).length)→(aW l n)[j]=d7 l j:=fun j hj=>i8 hj
   have hll:=i7 l n
   have hok:eN (b+20) cells spot left:=⟨ok.n,ok.s0,by have:=ok.s1;exact aB [] [_,_] (.le .w (.a (.a .x (.n 1)) (.n 1))) 1 (.le .w (.a .x (.n 20))) 0 qq this⟩
   generalize gF l n t=v at first ⊢
   refine iB ?_
   refine aK ?_
   refine a9 4 rfl ?_
   refine a9 3 rfl ?_
   refine C3 ?_
   refine kb ?_
   refine bI ?_
   rcases first with⟨rfl,no⟩|⟨v0,v1,hv,no⟩
   ·refine bK (Bool.eq_false_iff.mpr fun q=>?_) ?_
    ·refine aH (List.any_eq_true.mp q) fun x hx he=>?_
     rw[beq_iff_eq.mp he] at hx
     obtain⟨j,hj,e⟩:=List.mem_iff_getElem.mp hx
     rw[hlab j hj] at e
     exact no j (by exact aZ [_] [] (.le (.n 0) (.c .w)) 0 qq) (by exact aI [_,_,_] [] (.Eq .y .x) 1 (.Lt .w .y) 1 (.lt (.c .w) (.c .x)) 0 qq hll hj) e
    ·refine kJ ?_
     refine aC ?_
     refine bO ?_
     refine fA ?_
     refine hRR _ _ ?_
     exact⟨rfl,cells,spot,left,hok,rfl⟩
   ·obtain⟨j,rfl⟩:∃j:Nat,v=(j:Int):=⟨v.toNat,by exact cA [_] [_] (.eq (.c .w) .w) (.negSucc 0) (.eq .w (.c .w)) qq (Int.toNat_of_nonneg (v0))⟩
    have hj:j<(aW l n).length:=by exact aI [_,_,_] [] (.Eq .x .y) (.negSucc 0) (.lt (.c .w) (.c .y)) 1 (.Lt .w .x) 0 qq hll v1
    refine cU (List.any_eq_true.mpr ⟨t,List.mem_iff_getElem.mpr ⟨j,hj,(hlab j hj).trans hv⟩,beq_self_eq_true _⟩) ?_
    refine aY ?_
    refine a9 3 rfl ?_
    refine eA t8 .builtin ?_
    refine a8 ?_
    refine a9 4 rfl ?_
    refine aA ?_
    refine xA hj (by rw[hll];exact Nat.le_trans hn (by decide)) ((hlab j hj).trans hv) (fun m hm hmj e=>no m (by exact aZ [_] [] (.le (.n 0) (.c .w)) 0 qq) (by exact aB [_,_] [] (.Lt .w .x) 1 (.lt (.c .w) (.c .x)) 0 qq hmj) ((hlab m hm).symm.trans e)) ?_
    refine fA ?_
    refine hRR _ _ ?_
    exact⟨congrArg V.bool (beq_self_eq_true _),cells,spot,left,hok,rfl⟩
theorem WX.toPen{c:Cx}{σ:St}{X:Value→St→Prop}{l:List Stmt}{Q:Fl→St→Prop}{a:Addr}{xs:List V}{own' :List (Addr×OV)}(hp:cM a (.lst xs) (.pen xs) σ.own own')(h:WX c l ⟨σ.env,own'⟩ X Q):WX c l σ X Q:=WT.pen hp h
noncomputable def Er(x0 x1 x2 x3 x4 x5:Option V):List (Str×Slot):=[("script",.loc x0),("pen",.loc x1),("ranges",.cel x2),("count",.cel x3),("labels",.cel x4),("turn",.loc x5),("_law_pen",.glob),("_law_ranges",.glob),("_law_draw",.glob),("range",.glob),("labels_of",.glob),("_law_roman_holds",.glob),("_law_kept",.glob),("_law_wrong_refused",.glob),("_law_text_holds",.glob)]
theorem Ge{g:Gx}(P:PF g)(E:PE g){O:PO g}(M:PM g O)(D:FI g P)(L:DY g (P.fd 32))(L2:DY g (P.fd 76)){xs:List Int}(hx:xs.length≤63):
  aS g 11 (.val (.ref (P.fa 77))) [.lst (V.ints xs)] [(L.tab,.raw (tabObj #[])),(L2.tab,.raw (tabObj #[]))] cK (fun v own=>v= .bool true∧fT (fun p q=>(L.tab,OV.raw (tabObj p))∈own) (fun p q=>(L2.tab,OV.raw (tabObj q))∈own)):=by
 refine aN (ps:=["script"]) (P.i 77 rfl) (P.j 77 rfl) (fun _ _=>rfl) rfl fun c RR hRR hl hcel hcode hpins=>?_
 ·refine(?_:WX _ _ ⟨Er (some _) none none none none none,_⟩ _ _)
  refine aM ?_
  refine bM (P.i 62 rfl) 6 rfl ?_
  refine a8 ?_
  refine a9 0 rfl ?_
  refine aA ?_
  refine⟨1,_,_,_,_,by exact lv hl,cT.none,Gd P (by exact aB [_] [] (.Le .w (.n 63)) 1 (.Le .w (.n 1000)) 0 (.refl true) hx),fun y own' _ hy=>?_,fun _ _ hx=>hx.elim⟩
  refine cJ.e hy fun a cells z0 z1 hcl=>?_
  clear hy
  subst z0
  subst z1
  refine d8 1 rfl ?_
  refine WX.toPen .here ?_
  have ok:eN 0 cells 0 0:=⟨hcl,Int.le_refl _,Int.le_refl _⟩
  refine aU (iD (.cons (.cons .nil)) ?_)
  refine bS ?_
  refine a8 ?_
  refine bM (P.i 69 rfl) 7 rfl ?_
  refine a8 ?_
  refine a9 1 rfl ?_
  refine aA ?_
  refine⟨3,_,_,_,_,by exact lv hl,.take .nil,vK P ok (by exact of_decide_eq_true rfl),fun y own' _ hy=>?_,fun _ _ hx=>hx.elim⟩
  refine dT hy fun l z2 hr z3=>?_
  clear hy
  subst z2
  refine sF.e z3 fun cells spot left ok z5=>?_
  clear z3
  subst z5
  refine a8 ?_
  refine bM (P.i 63 rfl) 8 rfl ?_
  refine a8 ?_
  refine a9 1 rfl ?_
  refine a8 ?_
  refine aC ?_
  refine aA ?_
  refine eW.drawI (by exact lv hl) (.take .nil) (gV P ok (by exact of_decide_eq_true rfl) (by decide) (by decide)) fun n cells spot left n0 n1 ok=>?_
  obtain⟨n,rfl⟩:∃k:Nat,n=(k:Int):=⟨n.toNat,by exact cA [_] [_] (.eq (.c .w) .w) (.negSucc 0) (.eq .w (.c .w)) (.refl true) (Int.toNat_of_nonneg (n0))⟩
  refine aA ?_
  refine dA rfl ?_
  refine⟨_,_,rfl,.cons (aR 2 rfl) (.cons (aR 3 rfl) .nil),.cons (aR 3 rfl) (.cons (aR 2 rfl) .nil),?_,rfl⟩
  have hz:=hr.len
  refine aU (rD (by repeat constructor) ?_)
  refine dZ (by exact .loc (.loc (.glob (.fre (.skip (.skip (.cel))) (.nil))))) ?_
  refine bH ?_
  refine aL P.b_range .type 9 rfl ?_
  refine a8 ?_
  refine a9 3 rfl ?_
  refine aA ?_
  refine fC ?_
  refine⟨gH 0 n,by have:=cX (a:=0) (n:=n) (by exact of_decide_eq_true rfl) (by exact aB [_] [] (.lt (.c .w) (.n 12)) 1 (.Le .w (.n 10000)) 0 (.refl true) n1);rwa [Nat.zero_add] at this,by rw[iK];exact Nat.le_trans (show n≤12 by exact aB [_] [] (.lt (.c .w) (.n 12)) 1 (.Le .w (.n 12)) 0 (.refl true) n1) (by decide),rfl,fun r ys own=>cW (fun i k=>i+k=n) (fun i k=>r=gH i k) (fun i k=>ys=V.strs (aW l i)) (fun i k=>own=[(a,dW cells spot left),(L.tab,.raw (tabObj #[])),(L2.tab,.raw (tabObj #[]))]),⟨0,n,Nat.zero_add n,rfl,rfl,rfl⟩,?_,?_⟩
  ·intro JJ1 hJJ1 x r ys own z0
   refine cW.e z0 fun i k e4 e5 e6 z1=>?_
   clear z0
   subst z1
   intro e ps B
   cases k with
   |zero=>cases e5
   |succ k=>
    cases e5
    refine bE 1 rfl (f6 ?_)
    refine fV rfl ?_
    refine aX (P.i 70 rfl) 2 rfl ?_
    refine a8 ?_
    refine a9 3 rfl ?_
    refine a8 ?_
    refine a9 1 rfl ?_
    refine aA ?_
    refine⟨3,_,show 3≤c.lvl by exact lv hl,xY (g:=g) P (by exact aB [_] [] (.Le .w (.n 4)) 1 (.Le .w (.n 50)) 0 (.refl true) hz) hr.ok (by exact aZ [_] [] (.le (.n 0) (.c .w)) 0 (.refl true)) (by exact aI [_,_,_] [] (.lt (.c .x) (.n 12)) 1 (.Eq (.a .w (.a .y (.n 1))) .x) 1 (.le (.c .w) (.n 100)) 0 (.refl true) n1 e4),?_⟩
    refine hJJ1 _ _ _ ?_;exact⟨i+1,k,by exact cA [_,_,_] [] (.Eq (.a .w (.a .x (.n 1))) .y) 1 (.Eq (.a (.a .w (.n 1)) .x) .y) (.refl true) e4,rfl,by rw[e6,jI];unfold V.strs;rw[List.map_append];rfl,rfl⟩
  intro ys own z0
  refine cW.e z0 fun i k e4 e5 z1 z2=>?_
  clear z0
  subst z1
  subst z2
  obtain rfl:k=0:=by cases k with
   |zero=>rfl
   |succ k=>cases e5
  obtain rfl:i=n:=by exact cA [_,_] [] (.Eq (.a .w (.n 0)) .x) 1 (.Eq .w .x) (.refl true) e4
  refine d8 4 rfl ?_
  refine bU ?_
  refine cZ ?_
  refine fO ?_
  refine aK ?_
  refine aX (P.i 49 rfl) 10 rfl ?_
  refine a8 ?_
  refine a9 2 rfl ?_
  refine a8 ?_
  refine a9 3 rfl ?_
  refine aA ?_
  refine⟨4,_,by exact lv hl,xZ P hr.ok (by exact aB [_] [] (.lt (.c .w) (.n 12)) 1 (.Le .w (.n 100)) 0 (.refl true) n1),?_⟩
  refine a9 4 rfl ?_
  have hls:∀t∈aW l i,fM t:=fun t ht=>by
   refine aH (List.mem_map.mp ht) fun j hj z2=>?_
   subst z2
   exact(l9 hr (i:=j) (by exact aZ [_] [] (.le (.n 0) (.c .w)) 0 (.refl true)) (by have:=List.mem_range.mp hj;exact aI [_,_] [] (.lt (.c .x) (.n 12)) 1 (.Lt .w .x) 1 (.le (.c .w) (.n 100)) 0 (.refl true) n1 this)).1.ok
  refine l5 v9 hls hls ?_
  rw[decide_eq_true rfl]
  refine kb ?_
  refine bK rfl ?_
  refine fO ?_
  refine aK ?_
  refine dZ (by exact .loc (.loc (.glob (.fre (.skip (.skip (.cel))) (.nil))))) ?_
  refine bH ?_
  refine aL P.b_range .type 9 rfl ?_
  refine a8 ?_
  refine a9 3 rfl ?_
  refine aA ?_
  refine fC ?_
  refine⟨gH 0 i,by have:=cX (a:=0) (n:=i) (by exact of_decide_eq_true rfl) (by exact aB [_] [] (.lt (.c .w) (.n 12)) 1 (.Le .w (.n 10000)) 0 (.refl true) n1);rwa [Nat.zero_add] at this,by rw[iK];exact Nat.le_trans (show i≤12 by exact aB [_] [] (.lt (.c .w) (.n 12)) 1 (.Le .w (.n 12)) 0 (.refl true) n1) (by decide),rfl,fun r ys own=>cW (fun j k=>j+k=i) (fun j k=>r=gH j k) (fun j k=>ys=V.strs (aW l j)) (fun j k=>own=[(a,dW cells spot left),(L.tab,.raw (tabObj #[])),(L2.tab,.raw (tabObj #[]))]),⟨0,i,Nat.zero_add i,rfl,rfl,rfl⟩,?_,?_⟩
  ·intro JJ2 hJJ2 x r ys own z0
   refine cW.e z0 fun j k e4 e5 e6 z1=>?_
   clear z0
   subst z1
   intro e ps B
   cases k with
   |zero=>cases e5
   |succ k=>
    cases e5
    refine bE 1 rfl (f6 ?_)
    refine fV rfl ?_
    refine aX (P.i 48 rfl) 2 rfl ?_
    refine a8 ?_
    refine a9 3 rfl ?_
    refine a8 ?_
    refine a9 1 rfl ?_
    refine aA ?_
    refine⟨3,_,show 3≤c.lvl by exact lv hl,sA (g:=g) P hr.ok (by exact aZ [_] [] (.le (.n 0) (.c .w)) 0 (.refl true)) (by exact aI [_,_,_] [] (.lt (.c .x) (.n 12)) 1 (.Eq (.a .w (.a .y (.n 1))) .x) 1 (.le (.c .w) (.n 100)) 0 (.refl true) n1 e4),?_⟩
    refine hJJ2 _ _ _ ?_;exact⟨j+1,k,by exact cA [_,_,_] [] (.Eq (.a .w (.a .x (.n 1))) .y) 1 (.Eq (.a (.a .w (.n 1)) .x) .y) (.refl true) e4,rfl,by rw[e6,jI];unfold V.strs;rw[List.map_append];rfl,rfl⟩
  intro ys own z0
  refine cW.e z0 fun j k e4 e5 z1 z2=>?_
  clear z0
  subst z1
  subst z2
  obtain rfl:k=0:=by cases k with
   |zero=>rfl
   |succ k=>cases e5
  obtain rfl:j=i:=by exact cA [_,_] [] (.Eq (.a .w (.n 0)) .x) 1 (.Eq .w .x) (.refl true) e4
  refine a9 4 rfl ?_
  refine l5 v9 hls hls ?_
  rw[decide_eq_true rfl]
  refine kb ?_
  refine bK rfl ?_
  refine eF ?_
  refine bK rfl ?_
  refine aF ?_
  refine bU ?_
  refine cZ ?_
  refine fO ?_
  refine fD ?_
  refine dP ?_
  refine bM (P.i 72 rfl) 11 rfl ?_
  refine a8 ?_
  refine a9 1 rfl ?_
  refine aA ?_
  refine⟨3,_,_,_,_,by exact lv hl,.take .nil,nX P ok (by exact of_decide_eq_true rfl),fun y own' _ hy=>?_,fun _ _ hx=>hx.elim⟩
  refine aG hy fun z0 z1=>?_
  clear hy
  subst z0
  refine sF.e z1 fun cells spot left ok z3=>?_
  clear z1
  subst z3
  refine kb ?_
  refine nF rfl ?_
  refine fO ?_
  refine fD ?_
  refine dP ?_
  refine bM (P.i 75 rfl) 12 rfl ?_
  refine a8 ?_
  refine a9 1 rfl ?_
  refine a8 ?_
  refine a9 2 rfl ?_
  refine aA ?_
  refine⟨7,_,_,_,_,by exact lv hl,.take (.take .nil),zT P E M D L ok (by exact of_decide_eq_true rfl) hr,fun y own' _ hy=>?_,fun _ _ hx=>hx.elim⟩
  refine aG hy fun z0 z1=>?_
  clear hy
  subst z0
  refine t5.e z1 fun cells spot left o1 ok z3=>?_
  clear z1
  subst z3
  refine kb ?_
  refine nF rfl ?_
  refine fO ?_
  refine fD ?_
  refine dP ?_
  refine bM (P.i 76 rfl) 13 rfl ?_
  refine a8 ?_
  refine a9 1 rfl ?_
  refine a8 ?_
  refine a9 2 rfl ?_
  refine aA ?_
  refine⟨9,_,_,_,_,by exact lv hl,.take (.keep (.take .nil)),xW P E M D L2 ok (by exact of_decide_eq_true rfl) hr,fun y own' _ hy=>?_,fun _ _ hx=>hx.elim⟩
  refine aG hy fun z0 z1=>?_
  clear hy
  subst z0
  refine t5.e z1 fun cells spot left o2 ok z3=>?_
  clear z1
  subst z3
  refine kb ?_
  refine nF rfl ?_
  refine eF ?_
  refine gK rfl ?_
  refine aF ?_
  refine iJ ?_ ?_ ?_ ?_
  ·exact fun items σ=>A1 (fun m k w cells spot left=>m+k=3) (fun m k w cells spot left=>items=gH m k) (fun m k w cells spot left=>eN (100+20*m) cells spot left) (fun m k w cells spot left=>σ=⟨Er (some (.lst (V.ints xs))) (some (.val (.ref a))) (some (.lst (l.map Rg.v))) (some (.int j)) (some (.lst (V.strs (aW l j)))) w,[(a,dW cells spot left),(L2.tab,.raw (tabObj o2)),(L.tab,.raw (tabObj o1))]⟩)
  ·refine bH ?_
   refine aL P.b_range .type 9 rfl ?_
   refine a8 ?_
   refine aC ?_
   refine aA ?_
   refine fC ?_
   refine⟨gH 0 3,cX (a:=0) (n:=3) (by exact of_decide_eq_true rfl) (by exact of_decide_eq_true rfl),0,3,none,cells,spot,left,rfl,rfl,⟨ok.n,ok.s0,by have:=ok.s1;exact aB [] [_] (.le .w (.a (.a (.a (.a (.a (.n 0) (.n 20)) (.n 1)) (.n 20)) (.n 20)) (.n 20))) 1 (.le .w (.a (.n 100) (.m (.n 20) (.c (.n 0))))) 0 (.refl true) this⟩,rfl⟩
  ·intro JJ3 hJJ3 v r σ₁ z0
   refine A1.e z0 fun m k w cells spot left e1 e2 ok z1=>?_
   clear z0
   subst z1
   intro ps
   cases k with
   |zero=>cases e2
   |succ k=>
    cases e2
    refine bE 5 rfl ?_
    refine bU ?_
    refine fD ?_
    refine dP ?_
    refine bM (c:=(c.of g).pin ps) (P.i 71 rfl) 14 rfl ?_
    refine a8 ?_
    refine a9 1 rfl ?_
    refine a8 ?_
    refine a9 2 rfl ?_
    refine a8 ?_
    refine a9 3 rfl ?_
    refine a8 ?_
    refine a9 4 rfl ?_
    refine aA ?_
    refine⟨6,_,_,_,_,show 6≤c.lvl by exact lv hl,.take .nil,zS (g:=g) P ok (by exact aB [_,_] [] (.Eq (.a .w (.a .x (.n 1))) (.n 3)) 20 (.le (.a (.n 100) (.m (.n 20) (.c .w))) (.n 1000)) 0 (.refl true) e1) hr (by exact aB [_] [] (.lt (.c .w) (.n 12)) 1 (.Le .w (.n 11)) 0 (.refl true) n1),fun y own' _ hy=>?_,fun _ _ hx=>hx.elim⟩
    refine aG hy fun z0 z1=>?_
    clear hy
    subst z0
    refine sF.e z1 fun cells spot left ok z3=>?_
    clear z1
    subst z3
    refine kb ?_
    refine gK rfl ?_
    refine aF ?_
    refine aF ?_
    refine hJJ3 _ _ ?_
    exact⟨m+1,k,_,cells,spot,left,by exact cA [_,_] [] (.Eq (.a .w (.a .x (.n 1))) (.n 3)) 1 (.Eq (.a (.a .w (.n 1)) .x) (.n 3)) (.refl true) e1,rfl,⟨ok.n,ok.s0,by have:=ok.s1;exact aB [_] [_] (.le .w (.a (.a (.n 100) (.m (.n 20) (.c .w))) (.n 20))) 1 (.le .w (.a (.n 100) (.m (.n 20) (.c (.a .w (.n 1)))))) 0 (.refl true) this⟩,rfl⟩
  ·intro σ₁ z0
   refine A1.e z0 fun m k w cells spot left e1 e2 ok z1=>?_
   clear z0
   subst z1
   refine aF ?_
   refine aO ?_
   refine nQ ?_
   have hll:=i7 l j
   have hzl:(V.strs (aW l j)).length≤sizeLine:=by unfold V.strs;rw[List.length_map,hll];exact Nat.le_trans (show j≤12 by exact aB [_] [] (.lt (.c .w) (.n 12)) 1 (.Le .w (.n 12)) 0 (.refl true) n1) (by decide)
   refine dZ (by exact .loc (.loc (.glob (.fre (.skip (.skip (.skip (.cel)))) (.fre (.skip (.skip (.cel))) (.nil)))))) ?_
   refine bH ?_
   refine a9 4 rfl ?_
   refine⟨_,.lst,hzl,rfl,fun r ys own=>cW (fun x y=>aW l j=x++y) (fun x y=>r=V.strs y) (fun x y=>ys=V.ints (x.map fun t=>gF l j t)) (fun x y=>own=[(a,dW cells spot left),(L2.tab,.raw (tabObj o2)),(L.tab,.raw (tabObj o1))]),⟨[],aW l j,rfl,rfl,rfl,rfl⟩,?_,?_⟩
   ·intro JJ4 hJJ4 x r ys own z0
    refine cW.e z0 fun p q f1 f2 f3 z1=>?_
    clear z0
    subst z1
    intro e ps B
    cases q with
    |nil=>cases f2
    |cons t q=>
     cases f2
     have ht:t∈aW l j:=by rw[f1];simp
     refine aH (List.mem_map.mp ht) fun i hi z2=>?_
     subst z2
     have hpl:=l9 hr (i:=i) (by exact aZ [_] [] (.le (.n 0) (.c .w)) 0 (.refl true)) (by have:=List.mem_range.mp hi;exact aI [_,_] [] (.lt (.c .x) (.n 12)) 1 (.Lt .w .x) 1 (.le (.c .w) (.n 100)) 0 (.refl true) n1 this)
     refine bE 1 rfl (f6 ?_)
     refine fV rfl ?_
     refine aX (P.i 51 rfl) 2 rfl ?_
     refine a8 ?_
     refine a9 4 rfl ?_
     refine a8 ?_
     refine a9 3 rfl ?_
     refine a8 ?_
     refine a9 1 rfl ?_
     refine aA ?_
     refine⟨5,_,show 5≤c.lvl by exact lv hl,sB (g:=g) P (by exact aB [_] [] (.Le .w (.n 4)) 1 (.Le .w (.n 50)) 0 (.refl true) hz) hr.ok (by exact aB [_] [] (.Le .w (.n 400)) 1 (.Le .w (.n 30000)) 0 (.refl true) hpl.2) hpl.1.ok,?_⟩
     refine hJJ4 _ _ _ ?_;exact⟨p++[d7 l i],q,by rw[List.append_assoc];exact f1,rfl,by rw[f3,List.map_append,gM];rfl,rfl⟩
   intro ys own z0
   refine cW.e z0 fun p q f1 f2 z1 z2=>?_
   clear z0
   subst z1
   subst z2
   obtain rfl:q=[]:=by cases q with
    |nil=>rfl
    |cons n q=>cases f2
   rw[List.append_nil] at f1
   rw[←f1]
   refine dZ (by exact .loc (.loc (.fre (.skip (.skip (.skip (.skip (.cel))))) (.nil)))) ?_
   refine bH ?_
   refine a9 4 rfl ?_
   refine⟨_,.lst,hzl,rfl,fun r ys own=>cW (fun x y=>aW l j=x++y) (fun x y=>r=V.strs y) (fun x y=>ys=V.ints (x.map fun t=>gF l j t)) (fun x y=>own=[(a,dW cells spot left),(L2.tab,.raw (tabObj o2)),(L.tab,.raw (tabObj o1))]),⟨[],aW l j,rfl,rfl,rfl,rfl⟩,?_,?_⟩
   ·intro JJ5 hJJ5 x r ys own z0
    refine cW.e z0 fun p q f1 f2 f3 z1=>?_
    clear z0
    subst z1
    intro e ps B
    cases q with
    |nil=>cases f2
    |cons t q=>
     cases f2
     have ht:t∈aW l j:=by rw[f1];simp
     refine bE 1 rfl (f6 ?_)
     refine fV rfl ?_
     refine aY ?_
     refine a9 2 rfl ?_
     refine eA t8 .builtin ?_
     refine a8 ?_
     refine a9 1 rfl ?_
     refine aA ?_
     have first:=pT hr (n:=j) (by exact aB [_] [] (.lt (.c .w) (.n 12)) 1 (.le (.c .w) (.n 10000)) 0 (.refl true) n1) (t:=t)
     obtain⟨m,hm,em⟩:=List.mem_iff_getElem.mp ht
     refine m7 (first.resolve_left (fun q=>q.2 m (by omega) (by omega) ((i8 hm).symm.trans em))) fun v0 v1 hv no=>?_
     obtain⟨v,hvv⟩:∃v:Nat,gF l j t=(v:Int):=⟨(gF l j t).toNat,by exact cA [_] [_] (.eq (.c .w) .w) (.negSucc 0) (.eq .w (.c .w)) (.refl true) (Int.toNat_of_nonneg (v0))⟩
     rw[hvv] at v0 v1 hv no
     have hj:v<(aW l j).length:=by exact aI [_,_,_] [] (.Eq .x .y) (.negSucc 0) (.lt (.c .w) (.c .y)) 1 (.Lt .w .x) 0 (.refl true) hll v1
     refine xA hj (by rw[hll];exact Nat.le_trans (show j≤12 by exact aB [_] [] (.lt (.c .w) (.n 12)) 1 (.Le .w (.n 12)) 0 (.refl true) n1) (by decide)) ((i8 hj).trans hv) (fun m hm hmj e=>no m (by exact aZ [_] [] (.le (.n 0) (.c .w)) 0 (.refl true)) (by exact aB [_,_] [] (.Lt .w .x) 1 (.lt (.c .w) (.c .x)) 0 (.refl true) hmj) ((i8 hm).symm.trans e)) ?_
     refine hJJ5 _ _ _ ?_;exact⟨p++[t],q,by rw[List.append_assoc];exact f1,rfl,by rw[f3,List.map_append,gM,List.map_cons,hvv];rfl,rfl⟩
   intro ys own z0
   refine cW.e z0 fun p q f1 f2 z1 z2=>?_
   clear z0
   subst z1
   subst z2
   obtain rfl:q=[]:=by cases q with
    |nil=>rfl
    |cons n q=>cases f2
   rw[List.append_nil] at f1
   rw[←f1]
   refine l6 (l:=(aW l j).map fun t=>gF l j t) (r:=(aW l j).map fun t=>gF l j t) Cv (fun _ _=>trivial) (fun _ _=>trivial) ?_
   rw[decide_eq_true rfl]
   refine hRR _ _ ?_
   exact⟨rfl,_,_,by repeat (first|exact List.Mem.head _|apply List.Mem.tail),by repeat (first|exact List.Mem.head _|apply List.Mem.tail)⟩
section
open PySem PySem.W PyProof.Rows PySem.Calls
noncomputable def oQ(h:Heap)(a:Addr):Heap:=h.update a fun o=>{o with data:= .freed}
theorem qR{h:Heap}{a b:Addr}(hab:b≠a):(oQ h a).get? b=h.get? b:=Heap.get?_update_ne _ _ _ _ hab
theorem oP{h:Heap}{a:Addr}:(oQ h a).get? a=none:=by
 obtain⟨objs,l⟩:=h
 show(match(objs.modify a _)[a]? with|some ⟨_,_,.freed,_⟩=>none|o=>o)=none
 rw[Array.getElem?_modify,if_pos rfl]
 cases objs[a]? <;>rfl
theorem Am{h:Heap}{a b:Addr}{o:Obj}(e:(oQ h a).get? b=some o):h.get? b=some o:=by
 by_cases hab:b=a
 ·subst hab;rw[oP] at e;cases e
 ·rwa [qR hab] at e
noncomputable def w7(v:Value):Option Addr:=v.rec none none none (fun _=>none) (fun _ _=>none) (fun _ _=>none) (fun _ _=>none) (fun _ _=>none) (fun _=>none) (fun _=>none) (fun a=>some a)
noncomputable def Dn(v:Value):Option Str:=v.rec none none none (fun _=>none) (fun _ _=>none) (fun _ _=>none) (fun x _=>some x) (fun _ _=>none) (fun _=>none) (fun _=>none) (fun _=>none)
noncomputable def EP(v:Value):Option Int:=v.rec none none none (fun _=>none) (fun x _=>some x) (fun _ _=>none) (fun _ _=>none) (fun _ _=>none) (fun _=>none) (fun _=>none) (fun _=>none)
noncomputable def GY(v:Value):Tok:=v.rec 0 0 0 (fun _=>0) (fun _ t=>t) (fun _ _=>0) (fun _ _=>0) (fun _ _=>0) (fun _=>0) (fun _=>0) (fun _=>0)
noncomputable def FL(v:Value):Option (Array UInt8):=v.rec none none none (fun _=>none) (fun _ _=>none) (fun _ _=>none) (fun _ _=>none) (fun x _=>some x) (fun _=>none) (fun _=>none) (fun _=>none)
noncomputable def FJ(v:Value):Option String:=v.rec none none none (fun _=>none) (fun _ _=>none) (fun _ _=>none) (fun _ _=>none) (fun _ _=>none) (fun x=>some x) (fun _=>none) (fun _=>none)
noncomputable def Fh(d:Data):Option (Array Value):=d.rec none (fun _=>none) (fun x _=>some x) (fun _ _=>none) (fun _ _ _=>none) (fun _ _=>none) (fun _=>none) (fun _=>none) (fun _=>none) (fun _=>none) none
noncomputable def Ga(d:Data):Option (Array DictEntry):=d.rec none (fun _=>none) (fun _ _=>none) (fun x _=>some x) (fun _ _ _=>none) (fun _ _=>none) (fun _=>none) (fun _=>none) (fun _=>none) (fun _=>none) none
noncomputable def Ee(d:Data):Option FuncData:=d.rec none (fun _=>none) (fun _ _=>none) (fun _ _=>none) (fun _ _ _=>none) (fun _ _=>none) (fun _=>none) (fun x=>some x) (fun _=>none) (fun _=>none) none
noncomputable def Ef(d:Data):Option (Array Value):=d.rec none (fun _=>none) (fun _ _=>none) (fun _ _=>none) (fun _ _ _=>none) (fun _ _=>none) (fun _=>none) (fun _=>none) (fun _=>none) (fun x=>some x) none
theorem mT{v:Value}{a:Addr}(h:w7 v=some a):v= .ref a:=by cases v<;>cases h;rfl
theorem A5{v:Value}{a:Str}(h:Dn v=some a):∃t,v= .str a t:=by cases v<;>cases h;exact⟨_,rfl⟩
theorem Do{v:Value}{a:Int}(h:EP v=some a):∃t,v= .int a t:=by cases v<;>cases h;exact⟨_,rfl⟩
theorem Dp{v:Value}{a:Array UInt8}(h:FL v=some a):∃t,v= .bytes a t:=by cases v<;>cases h;exact⟨_,rfl⟩
theorem Dm{v:Value}{a:String}(h:FJ v=some a):v= .type a:=by cases v<;>cases h;rfl
theorem Ar{d:Data}{a:Array Value}(h:Fh d=some a):∃n,d= .seq a n:=by cases d<;>cases h;exact⟨_,rfl⟩
theorem CC{d:Data}{a:FuncData}(h:Ee d=some a):d= .func a:=by cases d<;>cases h;rfl
theorem CD{d:Data}{a:Array Value}(h:Ef d=some a):d= .fields a:=by cases d<;>cases h;rfl
noncomputable def Dg(K:Frag)(x:Str):Option Value:=(K.lookup 3).bind fun o=>(Ga o.data).bind fun es=>nsFind es x
noncomputable def Ed(K:Frag):Bool:=(K.lookup 3).isSome
theorem F4{K:Frag}{h:Heap}{mg:Str→Option Value}(X:K.In h)(N:h.Ns mainGlobals mg)(hd:Ed K=true)(x:Str):mg x=Dg K x:=by
 obtain⟨o,es,ep,ho,hod,_,hm⟩:=N
 obtain⟨o',hk⟩:=Option.isSome_iff_exists.mp hd
 have e:some o' =some o:=(X _ _ hk).symm.trans ho
 cases e
 unfold Dg
 rw[hk,Option.bind_some,hod]
 exact(hm x).symm
noncomputable def HC(K:Frag)(f:Addr):Option FuncData:=(K.lookup f).bind fun o=>Ee o.data
noncomputable def lD(K:Frag)(f:Addr):FuncData:=(HC K f).getD default
noncomputable def qQ:Value→Bool
 | .none=>true
 |_=>false
theorem oO{v:Value}(h:qQ v=true):v= .none:=by cases v<;>first|rfl|cases h
noncomputable def yX:List Str→Bool
 | []=>true
 |a::l=> !l.contains a&&yX l
theorem tO:∀{l:List Str},yX l=true→l.Nodup
 | [],_=> .nil
 |a::l,h=>by
  refine aG (Bool.and_eq_true_iff.mp h) fun h1 h2=>?_
  refine List.nodup_cons.mpr ⟨fun q=>?_,tO h2⟩
  rw[List.contains_iff_mem.mpr q] at h1;cases h1
noncomputable def Eg(K:Frag)(cd:Value)(q:Str):Bool:=((w7 cd).bind fun c=>(K.lookup c).bind fun o=>(Ef o.data).bind fun vs=>(vs[1]?).bind Dn).any fun x=>x==q
theorem CG{K:Frag}{h:Heap}(X:K.In h){cd:Value}{q:Str}(e:Eg K cd q=true):h.CodeRec cd q:=by
 obtain⟨x,e,e6⟩:=vQ e
 obtain⟨c,e1,e⟩:=sI e
 obtain⟨o,e2,e⟩:=sI e
 obtain⟨vs,e3,e⟩:=sI e
 obtain⟨v,e4,e5⟩:=sI e
 obtain⟨t,e5⟩:=A5 e5
 exact⟨c,o,vs,t,mT e1,X _ _ e2,CD e3,by rw[e4,e5,beq_iff_eq.mp e6]⟩
noncomputable def Fc(k:ScopeKind):Bool:=decide (k= .function)
noncomputable def GU(K:Frag)(f:Addr):Bool:=(HC K f).any fun fd=>fd.closure.isEmpty&&fd.globals==mainGlobals&&fd.builtins==builtinsNs&& !fd.scope.isCoroutine&& !fd.scope.isGenerator&&Fc fd.scope.kind&&Eg K fd.code fd.qualname&&yX (fd.scope.names.map (·.1))&&fd.scope.names.all (fun p=> !(p.1==("__debug__" :Str)))&&qQ fd.kwdefaults
theorem Cr{g:Gx}{f:Addr}{body:List Stmt}(e:GU g.K f=true)(hb:(lD g.K f).body= .stmts body):Bv g f (lD g.K f) body∧(lD g.K f).kwdefaults= .none:=by
 obtain⟨fd,hk,e⟩:=vQ e
 unfold lD at hb ⊢
 rw[hk] at hb ⊢
 obtain⟨o,h1,h2⟩:=sI hk
 simp only[Bool.and_eq_true,List.all_eq_true,Bool.not_eq_true',List.isEmpty_iff,beq_iff_eq] at e
 refine aG e fun z0 e10=>aG z0 fun z2 e9=>aG z2 fun z4 e8=>aG z4 fun z6 e7=>aG z6 fun z8 e6=>aG z8 fun z10 e5=>aG z10 fun z12 e4=>aG z12 fun z14 e3=>aG z14 fun e1 e2=>?_
 exact⟨⟨⟨o,g.hK _ _ h1,CC h2⟩,hb,e1,e2,e3,e4,e5,of_decide_eq_true e6,CG g.hK e7,tO e8,e9⟩,oO e10⟩
noncomputable def v7(K:Frag)(k:Nat):Addr:=((gG.find? (fun p=>p.2==k)).bind fun p=>(Dg K p.1).bind w7).getD 0
noncomputable def G8(K:Frag):Bool:=gG.all fun p=>(((Dg K p.1).bind w7).any fun f=>f==v7 K p.2)&&GU K (v7 K p.2)&&(p.2==58||qQ (lD K (v7 K p.2)).defaults)
noncomputable def DE:List (Nat×Nat×Addr):=[(2,0,36),(9,0,180),(10,0,202),(12,0,244),(17,0,292),(17,1,299),(17,2,306),(18,1,334),(18,4,355)]
noncomputable def H5(K:Frag):Bool:=DE.all fun p=>GU K p.2.2
noncomputable def Hc(K:Frag):Bool:=[180,244,299,306,334,355].all fun f=>qQ (lD K f).defaults
noncomputable def G9(K:Frag)(fd:FuncData)(items:Array Value):Prop:=jP (fun T o n=>fd.defaults= .ref T) (fun T o n=>K.lookup T=some o) (fun T o n=>o.data= .seq items n)
noncomputable def zK(K:Frag)(fd:FuncData):Option (Array Value):=(w7 fd.defaults).bind fun T=>(K.lookup T).bind fun o=>Fh o.data
theorem qU{K:Frag}{fd:FuncData}{items:Array Value}(h:zK K fd=some items):G9 K fd items:=by
 obtain⟨T,h1,h⟩:=sI h
 obtain⟨o,h2,h⟩:=sI h
 obtain⟨n,h⟩:=Ar h
 exact⟨T,o,n,mT h1,h2,h⟩
noncomputable def E2(o:Option (Array Value)):Tok:=((o.bind fun a=>a[0]?).map GY).getD 0
noncomputable def y1:List Str:=["len", "ord", "chr", "min", "max", "sum", "abs", "sorted", "isinstance", "int", "str", "bool", "list", "dict", "bytes", "range", "reversed", "Exception"]
noncomputable def Hd(K:Frag):Bool:=y1.all fun x=>(Dg K x).isNone
noncomputable def FM(K:Frag)(v:Value):Option (Array Value):=(w7 v).bind fun a=>(K.lookup a).bind fun o=>(FJ o.cls).bind fun t=>if t= "tuple" then Fh o.data else none
noncomputable def EY(K:Frag)(n:Nat):V→Value→Bool:=n.rec (fun _ _=>false) fun _ ih X v=>X.casesOn false (fun _=>false) (fun i=>EP v==some i) (fun x=>Dn v==some x) (fun b=>decide (FL v=some b)) (fun l=>(FM K v).any fun vs=>l.length==vs.toList.length&&(l.zip vs.toList).all fun p=>ih p.1 p.2) (fun _=>false) (fun _=>false) (fun _ _=>false) (fun _ _=>false) (fun _ _ _ _=>false) (fun _ _ _=>false) (fun _=>false)
theorem BU{g:Gx}{B:Fz}{l:List V}:∀{vs:List Value},l.length=vs.length→(∀p∈l.zip vs,c5 g B p.1 p.2)→Reps g B l vs:=by
 induction l with
 |nil=>intro vs h _;rw[List.eq_nil_of_length_eq_zero h.symm];exact .nil
 |cons x l ih=>
  intro vs h k
  cases vs with
  |nil=>exact absurd h (Nat.succ_ne_zero _)
  |cons v vs=>exact .cons (k (x,v) (List.mem_cons_self ..)) (ih (Nat.succ.inj h) fun p hp=>k p (List.mem_cons_of_mem _ hp))
theorem Dy{g:Gx}:∀(n:Nat) {X:V} {v:Value},EY g.K n X v=true→c5 g g.T.get? X v:=by
 intro n
 induction n with
 |zero=>intro X v h;cases h
 |succ n ih=>
  intro X v h
  cases X with
  |int i=>obtain⟨t,e⟩:=Do (beq_iff_eq.mp (show(EP v==some i)=true from h));rw[e];exact .int
  |str i=>obtain⟨t,e⟩:=A5 (beq_iff_eq.mp (show(Dn v==some i)=true from h));rw[e];exact .str
  |bytes i=>obtain⟨t,e⟩:=Dp (of_decide_eq_true h);rw[e];exact .bytes
  |tup l=>
   obtain⟨vs,e,h⟩:=vQ (show((FM g.K v).any fun vs=>l.length==vs.toList.length&&(l.zip vs.toList).all fun p=>EY g.K n p.1 p.2)=true from h)
   obtain⟨a,e1,e⟩:=sI e
   obtain⟨o,e2,e⟩:=sI e
   obtain⟨t,e3,e⟩:=sI e
   by_cases ht:t= "tuple"
   ·rw[if_pos ht] at e
    obtain⟨k,e4⟩:=Ar e
    rw[mT e1]
    obtain⟨h2,h3⟩:=Bool.and_eq_true_iff.mp h
    exact .tup (g.hK _ _ e2) (by rw[Dm e3,ht]) e4 (BU (beq_iff_eq.mp h2) fun p hp=>ih (List.all_eq_true.mp h3 p hp))
   ·rw[if_neg ht] at e;cases e
  |_=>cases h
noncomputable def HB(K:Frag)(x:Str)(X:V):Bool:=(Dg K x).any (EY K 5 X)
theorem Fd{g:Gx}{x:Str}{X:V}(hm:∀x,g.mg x=Dg g.K x)(h:HB g.K x X=true):Gl g x X:=by obtain⟨v,hv,h⟩:=vQ h;exact .inl ⟨v,(hm x).trans hv,Dy 5 h⟩
noncomputable def CF:List (Str×V):=[("ROMAN",.tup (rG c9)),("ALPHABET",.str eU),("FIGURES",.str qT),("STYLES",.tup (V.strs dF)),("MARK",.bytes #[254,255]),("MOST_HOPS",.int 30),("MOST_DEEP",.int 40),("_law_tens",.tup (V.strs sL))]
noncomputable def Fi(K:Frag):Bool:=CF.all fun p=>HB K p.1 p.2
noncomputable def H3(K:Frag)(x:Str)(a:Addr):Bool:=((Dg K x).bind w7).any fun b=>b==a
noncomputable def FS(K:Frag):Bool:=[(Str.ofString "TreeFault",59),(Str.ofString "Name",183),(Str.ofString "String",205),(Str.ofString "Reference",254),(Str.ofString "Shelf",363),(Str.ofString "__builtins__",4)].all fun p=>H3 K p.1 p.2
noncomputable def At(K:Frag)(k:Nat):Addr:=(w7 (lD K (v7 K k)).code).getD 0
inductive HG(K:Frag):Prop
 |mk (nm q N bs hdct sn sub ab col dd k0 k1 k2 k3 k5) (h:K.lookup 59=some (excClassObj nm q 59 N bs [.ref 46,.type "Exception",.type "BaseException",.type "object"] hdct sn sub ab col dd k0 k1 k2 k3 k5 "Exception.__new__")):HG K
structure FK(K:Frag):Prop where
 d3:Ed K=true
 t1:K.lookup 438=none
 t2:K.lookup 679=none
 fns:G8 K=true
 texts:gG.map (fun p=>((lD K (v7 K p.2)).body,(lD K (v7 K p.2)).params,(lD K (v7 K p.2)).scope))=gG.map (fun p=>(FuncBody.stmts (oR p.2),uZ p.2,kH p.2))
 mth:H5 K=true
 mtexts:DE.map (fun p=>((lD K p.2.2).body,(lD K p.2.2).params,(lD K p.2.2).scope))=DE.map (fun p=>(FuncBody.stmts (C8 p.1 p.2.1),E5 p.1 p.2.1,rL p.1 p.2.1))
 dfn:Hc K=true
 blt:Hd K=true
 con:Fi K=true
 refs:FS K=true
 d58:zK K (lD K (v7 K 58))=some #[.int 16 (E2 (zK K (lD K (v7 K 58))))]
 d36:zK K (lD K 36)=some #[.int (-1) (E2 (zK K (lD K 36)))]
 d202:zK K (lD K 202)=some #[.bool false]
 d292:zK K (lD K 292)=some #[.none,.none]
 c32:(lD K (v7 K 32)).code= .ref (At K 32)∧codeHdIn K (At K 32) 438=true
 c76:(lD K (v7 K 76)).code= .ref (At K 76)∧codeHdIn K (At K 76) 679=true
 tf:HG K
 tfk:keepIn K (.ref 59)=true
 tfi:findIn K (.ref 59) "__init__" =some (some (.ref 36))∧typeIn K (.ref 36)=some (.type "function")
 exs:((clsIn K 59).any fun cd=>v8 cd.mro&&cd.hasDict)=true
 exh:findIn K (.ref 59) "__setattr__" =some (some (.builtin "object.__setattr__"))
 exw:findIn K (.ref 59) "what" =some none
 exa:findIn K (.ref 59) "at" =some none
 find:findCls K (.type "Exception") (.type "type") "__init__" =some (.val (.builtin "Exception.__init__"))
 cls:([(183,180),(205,202),(254,244),(363,292)]:List (Addr×Addr)).map (fun p=>(keepIn K (.ref p.1),makesIn K p.1,findIn K (.ref p.1) "__init__",typeIn K (.ref p.2)))=([(183,180),(205,202),(254,244),(363,292)]:List (Addr×Addr)).map (fun p=>(true,true,some (some (.ref p.2)),some (.type "function")))
 sN:iY K 183 "text"
 sS1:iY K 205 "octets"
 sS2:iY K 205 "is_hex"
 sR1:iY K 254 "number"
 sR2:iY K 254 "generation"
 sH1:iY K 363 "table"
 sH2:iY K 363 "trailer"
 mFe:pE K 363 "fetch" 299
 mGe:pE K 363 "get" 306
 mAd:pE K 363 "add" 334
 mRo:pE K 363 "root" 355
 aTable:g0 K 363 "table"
 aTrailer:g0 K 363 "trailer"
 aNumber:g0 K 254 "number"
 aGen:g0 K 254 "generation"
 aText:g0 K 183 "text"
 aOct:g0 K 205 "octets"
 nN:lY K 183
 nS:lY K 205
 bs:(isIn K (.ref 254) 254&&isIn K (.ref 183) 183&&isIn K (.ref 205) 205&&kin_not K 183 254&&kin_not K 205 254&&kin_not K 183 205&&kin_notT K 205 "int" &&isNotIn K "int" 254&&isNotIn K "bool" 254&&isNotIn K "NoneType" 254&&isNotIn K "dict" 254&&isNotIn K "list" 254&&isNotIn K "int" 183&&isNotIn K "NoneType" 183)=true
theorem uY{K:Frag}(h:G8 K=true){p:Str×Nat}(hp:p∈gG):Dg K p.1=some (.ref (v7 K p.2))∧GU K (v7 K p.2)=true∧(p.2≠58→(lD K (v7 K p.2)).defaults= .none):=by
 have:=List.all_eq_true.mp h p hp
 simp only[Bool.and_eq_true,Bool.or_eq_true,beq_iff_eq] at this
 refine aG this fun z0 h3=>?_
 clear this
 refine aG z0 fun h1 h2=>?_
 clear z0
 refine⟨?_,h2,fun q=>oO (h3.resolve_left q)⟩
 obtain⟨f,hf,h1⟩:=vQ h1
 obtain⟨v,hv,h4⟩:=sI hf
 rw[hv,mT h4,beq_iff_eq.mp h1]
section
variable {g:Gx}(X:FK g.K)
include X
theorem FK.mg(x:Str):g.mg x=Dg g.K x:=F4 g.hK g.hg X.d3 x
theorem FK.isFn{p:Str×Nat}(hp:p∈gG):pG g p.1 p.2 (v7 g.K p.2) (lD g.K (v7 g.K p.2)):=by
 refine eT (uY X.fns hp) fun h1 h2 _=>?_
 have tx:=List.map_inj_left.mp X.texts p hp
 exact aG (Prod.mk.inj tx) fun t1 t2=>aG (Prod.mk.inj t2) fun t2 t3=>aG (Cr h2 t1) fun f1 f2=>⟨.inl ⟨_,(X.mg _).trans h1,.val⟩,f1,t2,t3,f2⟩
theorem FK.isM{p:Nat×Nat×Addr}(hp:p∈DE):Gw g p.1 p.2.1 p.2.2 (lD g.K p.2.2):=by
 have h2:=List.all_eq_true.mp X.mth p hp
 have tx:=List.map_inj_left.mp X.mtexts p hp
 exact aG (Prod.mk.inj tx) fun t1 t2=>aG (Prod.mk.inj t2) fun t2 t3=>aG (Cr h2 t1) fun f1 f2=>⟨f1,t2,t3,f2⟩
theorem FK.dn{f:Addr}(hf:f∈[180,244,299,306,334,355]):(lD g.K f).defaults= .none:=oO (List.all_eq_true.mp X.dfn f hf)
theorem FK.bl{x:Str}(hx:x∈y1){v:Value}(hv:bootBuiltins x=some v)(hn:x≠ "__name__"):Gl g x (.val v):=
 .inr ⟨(X.mg x).trans (Option.isNone_iff_eq_none.mp (List.all_eq_true.mp X.blt x hx)),v,(g.hbi x hn).trans hv,rfl⟩
theorem FK.co{p:Str×V}(hp:p∈CF):Gl g p.1 p.2:=Fd X.mg (List.all_eq_true.mp X.con p hp)
theorem FK.ref{x:Str}{a:Addr}(hp:(x,a)∈[(Str.ofString "TreeFault",59),(Str.ofString "Name",183),(Str.ofString "String",205),(Str.ofString "Reference",254),(Str.ofString "Shelf",363),(Str.ofString "__builtins__",4)]):g.mg x=some (.ref a):=by
 have:=List.all_eq_true.mp X.refs (x,a) hp
 obtain⟨f,hf,h1⟩:=vQ this
 obtain⟨v,hv,h4⟩:=sI hf
 rw[X.mg,hv,mT h4,beq_iff_eq.mp h1]
theorem FK.dv{fd:FuncData}{items:Array Value}(h:G9 g.K fd items):sG g fd items:=by
 refine jP.e h fun T o n h1 h2 h3=>?_
 clear h
 exact⟨T,o,n,h1,g.hK _ _ h2,h3⟩
theorem FK.cl{p:Addr×Addr}(hp:p∈([(183,180),(205,202),(254,244),(363,292)]:List (Addr×Addr))):keepIn g.K (.ref p.1)=true∧makesIn g.K p.1=true∧findIn g.K (.ref p.1) "__init__" =some (some (.ref p.2))∧typeIn g.K (.ref p.2)=some (.type "function"):=by
 have:=List.map_inj_left.mp X.cls p hp
 exact aG (Prod.mk.inj this) fun a this=>aG (Prod.mk.inj this) fun b this=>aG (Prod.mk.inj this) fun c d=>⟨a,b,c,d⟩
noncomputable def FK.PF:PF g where
 fa:=v7 g.K
 fd:=fun k=>lD g.K (v7 g.K k)
 fn:=fun p hp=>X.isFn hp
 df:=fun p hp h=>(uY X.fns hp).2.2 h
 b_len:=X.bl (by decide) (by rfl) (by decide)
 b_ord:=X.bl (by decide) (by rfl) (by decide)
 b_chr:=X.bl (by decide) (by rfl) (by decide)
 b_min:=X.bl (by decide) (by rfl) (by decide)
 b_max:=X.bl (by decide) (by rfl) (by decide)
 b_sum:=X.bl (by decide) (by rfl) (by decide)
 b_abs:=X.bl (by decide) (by rfl) (by decide)
 b_sorted:=X.bl (by decide) (by rfl) (by decide)
 b_isinstance:=X.bl (by decide) (by rfl) (by decide)
 b_int:=X.bl (by decide) (by rfl) (by decide)
 b_str:=X.bl (by decide) (by rfl) (by decide)
 b_bool:=X.bl (by decide) (by rfl) (by decide)
 b_list:=X.bl (by decide) (by rfl) (by decide)
 b_dict:=X.bl (by decide) (by rfl) (by decide)
 b_bytes:=X.bl (by decide) (by rfl) (by decide)
 b_range:=X.bl (by decide) (by rfl) (by decide)
 b_reversed:=X.bl (by decide) (by rfl) (by decide)
 g_ROMAN:=X.co (p:=("ROMAN",_)) (.head _)
 g_ALPHABET:=X.co (p:=("ALPHABET",_)) (.tail _ (.head _))
 g_FIGURES:=X.co (p:=("FIGURES",_)) (.tail _ (.tail _ (.head _)))
 g_STYLES:=X.co (p:=("STYLES",_)) (.tail _ (.tail _ (.tail _ (.head _))))
 g_MARK:=X.co (p:=("MARK",_)) (.tail _ (.tail _ (.tail _ (.tail _ (.head _)))))
 g_MOST_HOPS:=X.co (p:=("MOST_HOPS",_)) (.tail _ (.tail _ (.tail _ (.tail _ (.tail _ (.head _))))))
 g_MOST_DEEP:=X.co (p:=("MOST_DEEP",_)) (.tail _ (.tail _ (.tail _ (.tail _ (.tail _ (.tail _ (.head _)))))))
 g__law_tens:=X.co (p:=("_law_tens",_)) (.tail _ (.tail _ (.tail _ (.tail _ (.tail _ (.tail _ (.tail _ (.head _))))))))
theorem FK.es{x:Str}(h:findIn g.K (.ref 59) x=some none):pH g.K 59 x:=by
 refine⟨?_,X.exh,h⟩
 have e:=X.exs
 cases hc:clsIn g.K 59 with
 |none=>rw[hc] at e;cases e
 |some cd=>
  rw[hc] at e
  exact⟨cd,rfl,Bool.and_eq_true_iff.mp e⟩
theorem FK.exc:lI g 59 36 where
 hC:=by obtain⟨nm,q,N,bs,hdct,sn,sub,ab,col,dd,k0,k1,k2,k3,k5,h⟩:=X.tf;exact⟨nm,q,N,bs,_,hdct,sn,sub,ab,col,dd,k0,k1,k2,k3,k5,_, "Exception",_,_,g.hK _ _ h,PySem.F.excBase_Exception,by decide+kernel,by decide+kernel,by decide+kernel,by decide+kernel⟩
 hi:=X.tfi.1
 hf:=X.tfi.2
noncomputable def FK.PE:PE g where
 tf:=59
 pi:=36
 pfd:=lD g.K 36
 g_TreeFault:= .inl ⟨_,X.ref (.head _),.val⟩
 g_Exception:=X.bl (by decide) (by rfl) (by decide)
 keep:=X.tfk
 exc:=X.exc
 excB:=fun nm q N bs bm hdct sn sub ab col dd k0 k1 k2 k3 k5 newId h=>by
  obtain⟨nm',q',N',bs',hdct',sn',sub',ab',col',dd',k0',k1',k2',k3',k5',h'⟩:=X.tf
  have e:=(g.hK _ _ h').symm.trans h
  injection e with e
  injection e with _ _ e _
  injection e with e
  injection e with _ _ e
  injection e with _ e
  rw[←e];decide+kernel
 what:=X.es X.exw
 at_:=X.es X.exa
 init:=X.isM (p:=(2,0,36)) (.head _)
 dflt:=⟨_,X.dv (qU X.d36)⟩
 find:=X.find
noncomputable def FK.PO:PO g where
 nm:=183
 nmI:=180
 nmF:=lD g.K 180
 cN:=⟨.inl ⟨_,X.ref (.tail _ (.head _)),.val⟩,(X.cl (p:=(183,180)) (.head _)).1,(X.cl (p:=(183,180)) (.head _)).2.1,(X.cl (p:=(183,180)) (.head _)).2.2.1,(X.cl (p:=(183,180)) (.head _)).2.2.2,X.isM (p:=(9,0,180)) (.tail _ (.head _))⟩
 dN:=X.dn (.head _)
 sN:=X.sN
 st:=205
 stI:=202
 stF:=lD g.K 202
 cS:=⟨.inl ⟨_,X.ref (.tail _ (.tail _ (.head _))),.val⟩,(X.cl (p:=(205,202)) (.tail _ (.head _))).1,(X.cl (p:=(205,202)) (.tail _ (.head _))).2.1,(X.cl (p:=(205,202)) (.tail _ (.head _))).2.2.1,(X.cl (p:=(205,202)) (.tail _ (.head _))).2.2.2,X.isM (p:=(10,0,202)) (.tail _ (.tail _ (.head _)))⟩
 dS:=X.dv (qU X.d202)
 sS1:=X.sS1
 sS2:=X.sS2
 rf:=254
 rfI:=244
 rfF:=lD g.K 244
 cR:=⟨.inl ⟨_,X.ref (.tail _ (.tail _ (.tail _ (.head _)))),.val⟩,(X.cl (p:=(254,244)) (.tail _ (.tail _ (.head _)))).1,(X.cl (p:=(254,244)) (.tail _ (.tail _ (.head _)))).2.1,(X.cl (p:=(254,244)) (.tail _ (.tail _ (.head _)))).2.2.1,(X.cl (p:=(254,244)) (.tail _ (.tail _ (.head _)))).2.2.2,X.isM (p:=(12,0,244)) (.tail _ (.tail _ (.tail _ (.head _))))⟩
 dR:=X.dn (.tail _ (.head _))
 sR1:=X.sR1
 sR2:=X.sR2
 sh:=363
 shI:=292
 shF:=lD g.K 292
 cH:=⟨.inl ⟨_,X.ref (.tail _ (.tail _ (.tail _ (.tail _ (.head _))))),.val⟩,(X.cl (p:=(363,292)) (.tail _ (.tail _ (.tail _ (.head _))))).1,(X.cl (p:=(363,292)) (.tail _ (.tail _ (.tail _ (.head _))))).2.1,(X.cl (p:=(363,292)) (.tail _ (.tail _ (.tail _ (.head _))))).2.2.1,(X.cl (p:=(363,292)) (.tail _ (.tail _ (.tail _ (.head _))))).2.2.2,X.isM (p:=(17,0,292)) (.tail _ (.tail _ (.tail _ (.tail _ (.head _)))))⟩
 dH:=X.dv (qU X.d292)
 sH1:=X.sH1
 sH2:=X.sH2
noncomputable def FK.PM:PM g X.PO:=by
 have b:=X.bs
 simp only[Bool.and_eq_true] at b
 obtain⟨⟨⟨⟨⟨⟨⟨⟨⟨⟨⟨⟨⟨b1,b2⟩,b3⟩,b4⟩,b5⟩,b6⟩,b7⟩,b8⟩,b9⟩,b10⟩,b11⟩,b12⟩,b13⟩,b14⟩:=b
 exact{fe:=299,feF:=lD g.K 299,mFe:=⟨X.mFe,X.isM (p:=(17,1,299)) (.tail _ (.tail _ (.tail _ (.tail _ (.tail _ (.head _)))))),X.dn (by decide)⟩,ge:=306,geF:=lD g.K 306,mGe:=⟨X.mGe,X.isM (p:=(17,2,306)) (.tail _ (.tail _ (.tail _ (.tail _ (.tail _ (.tail _ (.head _))))))),X.dn (by decide)⟩,ad:=334,adF:=lD g.K 334,mAd:=⟨X.mAd,X.isM (p:=(18,1,334)) (.tail _ (.tail _ (.tail _ (.tail _ (.tail _ (.tail _ (.tail _ (.head _)))))))),X.dn (by decide)⟩,ro:=355,roF:=lD g.K 355,mRo:=⟨X.mRo,X.isM (p:=(18,4,355)) (.tail _ (.tail _ (.tail _ (.tail _ (.tail _ (.tail _ (.tail _ (.tail _ (.head _))))))))),X.dn (by decide)⟩,aTable:=X.aTable,aTrailer:=X.aTrailer,aNumber:=X.aNumber,aGen:=X.aGen,aText:=X.aText,aOct:=X.aOct,iRR:=b1,iNN:=b2,iSS:=b3,nN:=X.nN,nS:=X.nS,kNR:=b4,kSR:=b5,kNS:=b6,tSi:=b7,iR:=b8,bR:=b9,nR:=b10,dR:=b11,lR:=b12,iN:=b13,nNm:=b14}
end
theorem xD{h:Heap}{a b c:Addr}(h1:c≠a)(h2:c≠b):(oQ (oQ h a) b).get? c=h.get? c:=(qR h2).trans (qR h1)
theorem Co{h:Heap}{a b c:Addr}{o:Obj}(e:(oQ (oQ h a) b).get? c=some o):h.get? c=some o:=Am (Am e)
theorem DL{h:Heap}{a b:Addr}(hab:a≠b):(oQ (oQ h a) b).get? a=none:=(qR hab).trans oP
theorem vU{h:Heap}{n a b:Addr}{m:Str→Option Value}(x:h.Ns n m)(h1:n≠a)(h2:n≠b):(oQ (oQ h a) b).Ns n m:=
 let ⟨o,es,ep,ho,r⟩:=x;⟨o,es,ep,(xD h1 h2).trans ho,r⟩
noncomputable def H8(w:World)(h:Heap)(mg mb:Str→Option Value)(K:Frag)(X:FK K)(hK:K.In h)(hg:h.Ns mainGlobals mg)(hb:h.Ns builtinsNs mb)(hl:h.NoLimit)(hbi:∀x:Str,x≠ "__name__"→mb x=bootBuiltins x):Gx where
 prog:=PySem.Challenge.pw_nn0227_01
 w:=w
 K:=K
 T:=oQ (oQ h 438) 679
 mg:=mg
 mb:=mb
 hK:=fun a o e=>(xD (fun q=>by rw[q,X.t1] at e;cases e) (fun q=>by rw[q,X.t2] at e;cases e)).trans (hK a o e)
 hg:=vU hg (by decide) (by decide)
 hb:=vU hb (by decide) (by decide)
 hl:=by obtain⟨mc,h1,h2⟩:=hl;exact⟨mc,vU h1 (by decide) (by decide),h2⟩
 hbi:=hbi
theorem AL{g:Gx}{B:Fz}{P:Params}{h:Heap}{xs:List Int}:∀{vs:List Value},WellAll P h vs (ofPys (xs.map .int))→Reps g B (V.ints xs) vs:=by
 induction xs with
 |nil=>intro vs x;cases x;exact .nil
 |cons n xs ih=>intro vs x;cases x with|cons a b=>cases a;exact .cons .int (ih b)
theorem Hz{g:Gx}(X:FK g.K){fd:FuncData}{c t:Addr}(e:fd.code= .ref c)(hc:codeHdIn g.K c t=true)(hb:∃bm ob,g.mg "__builtins__" =some (.ref bm)∧bm≠builtinsNs∧g.T.get? bm=some ob∧ob.cls= .type "module"∧ob.dict=some builtinsNs∧ob.data= .plain)(h3:(3:Addr)≠t)(h4:(4:Addr)≠t):∃L:DY g fd,L.tab=t:=by
 refine cI hb fun bm z0=>?_
 clear hb
 refine Cu z0 fun ob b1 b2 b3 b4 b5 b6=>?_
 clear z0
 have:=X.ref (g:=g) (x:= "__builtins__") (a:=4) (by simp)
 rw[b1] at this
 cases this
 exact⟨⟨c,t,e,codeHd_of_K g.hK hc,⟨4,ob,b1,b2,by decide,h4,b3,b4,b5,b6⟩,h3⟩,rfl⟩
theorem As{K:Frag}{h:Heap}{c t:Addr}(X:K.In h)(hc:codeHdIn K c t=true):isCodeTable h t:=by
 refine cI (codeHd_of_K X hc) fun o z0=>cI z0 fun vs z2=>?_
 clear z0
 refine cI z2 fun _ z4=>?_
 clear z2
 refine cI z4 fun _ z6=>?_
 clear z4
 refine cI z6 fun _ z8=>?_
 clear z6
 refine cI z8 fun _ z10=>?_
 clear z8
 refine cI z10 fun _ z12=>?_
 clear z10
 refine cI z12 fun _ z14=>?_
 clear z12
 refine Hb z14 fun _ h1 h2 h3 h4 _=>?_
 clear z14
 exact⟨c,o,vs,h1,h2,h3,h4⟩
theorem finish{q:Program}{loose:List Str}{XP:(Str→Option Value)→Heap→Prop}{K:Params→Frag}{as:List Addr}{e:∀P,as=(K P).map (·.1)}{d:DefRec}{kwd:List (Str×Expr)}(hd:d.name= "law")(F:∀P,FK (K P)):
  WalkO q loose XP (kmHook K as e [679,438]).says Challenge.rw_nn0227_01.row.toRowW d kwd fun f vs=>PySem.call f vs:=by
 intro w s₀ s₁ mg mb G Y a o pm cd doc dV kV ho hdt hcd hD hmg hgens args vals las hpre hlay hrd hwl hlo
 have KX:=km_in_of Y
 have KT:=km_tabs_of Y
 have X:=F w.params
 refine cI G.T.bmain fun bm z0=>Cu z0 fun ob m1 m2 m3 m4 m5 m6=>?_
 clear z0
 have hgg:=G.T.g
 have hgb:=G.T.b
 have hgl:=G.T.nolimit
 have hgbi:=G.T.builtins
 rw[hd] at hmg
 clear G Y hD hcd hdt ho
 wrow_args hpre hlay hrd hwl hlo
 rename_i xs hs hlay0 hL1 hr1 hl2 as1 as2 b vs as3 hL ra w1 r0 hI hr hc1 hc2
 generalize hK:K w.params=KK at X KX
 refine enter_call ?_
 have hx:xs.length≤63:=by exact aB [_] [] (.nlt (.c (.n 63)) (.c .w)) 1 (.Le .w (.n 63)) 0 qq hc1
 clear hs hlay0 hL1 hr1 hl2 hL ra r0 hI hr hc1 hc2
 cases w1 with|list hb hw=>
 rename_i vs
 have h1:=KT 438 (by decide)
 have h2:=KT 679 (by decide)
 have nb:b≠438∧b≠679:=⟨(fun q=>by rw[q,h1] at hb;cases hb),(fun q=>by rw[q,h2] at hb;cases hb)⟩
 have n1:bm≠438:=fun q=>by
  rw[q,h1] at m3
  cases m3
  cases m4
 have n2:bm≠679:=fun q=>by
  rw[q,h2] at m3
  cases m3
  cases m4
 let g:Gx:=H8 w s₁.heap mg mb KK X KX hgg hgb hgl hgbi
 have X' :FK g.K:=X
 have hbm:∃bm ob,g.mg "__builtins__" =some (.ref bm)∧bm≠builtinsNs∧g.T.get? bm=some ob∧ob.cls= .type "module"∧ob.dict=some builtinsNs∧ob.data= .plain:=
  ⟨bm,ob,m1,m2,(xD n1 n2).trans m3,m4,m5,m6⟩
 refine cI (Hz (g:=g) X' X.c32.1 X.c32.2 hbm (by decide) (by decide)) fun L hL=>cI (Hz (g:=g) X' X.c76.1 X.c76.2 hbm (by decide) (by decide)) fun L2 hL2=>?_
 have law:=Ge (g:=g) X'.PF X'.PE X'.PM ⟨_,X'.dv (qU X.d58)⟩ L L2 hx
 rw[hL,hL2] at law
 have ea:a=v7 KK 77:=by
  have:=(uY X.fns (p:=("law",77)) (by decide)).1
  exact Value.ref.inj (Option.some.inj (hmg.symm.trans ((X'.mg (g:=g) "law").trans this)))
 subst ea
 have Tle:∀c o,g.T.get? c=some o→s₁.heap.get? c=some o:=fun c o e=>Co e
 refine law callerA [] g.T.get? s₁ (.ref _) [.ref b] _ ⟨rfl,rfl,by decide,by decide⟩ ⟨fun _ _ e=>e,Tle,fun p hp=>?_,by decide,fun p hp=>?_,fun _ h=>nomatch h⟩ .val (.cons (.lst rfl ((xD nb.1 nb.2).trans hb) rfl rfl (AL hw)) .nil) (fun v x own' B' s' hq hr af=>?_) fun _ _ _ _ _ h=>h.elim
 ·rcases List.mem_cons.mp hp with rfl|hp
  ·exact h1
  ·obtain rfl:=List.mem_singleton.mp hp
   exact h2
 ·rcases List.mem_cons.mp hp with rfl|hp
  ·exact DL (by decide)
  ·obtain rfl:=List.mem_singleton.mp hp
   exact oP
 ·refine aG hq fun z0 z1=>?_
  clear hq
  subst z0
  refine fT.e z1 fun p q k1 k2=>?_
  clear z1
  cases hr
  refine pJ.e af.rest fun h' tk z0=>?_
  subst z0
  have o1:=af.owns _ k1
  have o2:=af.owns _ k2
  have keep:∀c o,c≠438→c≠679→s₁.heap.get? c=some o→h'.get? c=some o:=fun c o n1 n2 e=>af.frz c o (af.Bold c o ((xD n1 n2).trans e))
  refine⟨.inl ⟨_,.bool true,[],rfl,fun _=>rfl,.bool true,(by first|(w_fin;done)|kernel_rfl),fun _=>⟨.nil,fun _ h=>nomatch h⟩⟩,⟨fun c o e=>?_,fun c o e=>?_⟩,rfl,AllBare.of_eq hgens⟩
  ·by_cases n1:c=438
   ·subst n1
    rw[h1] at e;cases e
    exact .inr (.inl ⟨As KX X.c32.2,rfl, #[],p,rfl,by rw[Array.empty_append];exact o1⟩)
   ·by_cases n2:c=679
    ·subst n2
     rw[h2] at e;cases e
     exact .inr (.inl ⟨As KX X.c76.2,rfl, #[],q,rfl,by rw[Array.empty_append];exact o2⟩)
    ·exact .inl (keep c o n1 n2 e)
  ·by_cases n1:c=438
   ·subst n1;exact⟨_,o1⟩
   ·by_cases n2:c=679
    ·subst n2;exact⟨_,o2⟩
    ·exact⟨o,keep c o n1 n2 e⟩
end
theorem tq:True:=⟨⟩
abbrev T:=True
namespace hd
theorem tw2867327485932766208:T:=tq
theorem tw4971549296188076032:T:=tq
theorem tw8735263284916673568:T:=tq
theorem tw1800889605409440832:T:=tq
theorem tw4523669819894539328:T:=tq
theorem tw6276725880618359904:T:=tq
theorem tw16412773359747925120:T:=tq
theorem tw4706079058837389440:T:=tq
theorem tw5292301768408028288:T:=tq
theorem tw6830512106363814048:T:=tq
theorem tw17950676927832955104:T:=tq
theorem tw10458740792067480800:T:=tq
theorem tw8381844023166312768:T:=tq
theorem tw17387473266821786944:T:=tq
theorem tw7023726343779634624:T:=tq
theorem tw8134915037123179040:T:=tq
theorem tw15344866539931968096:T:=tq
theorem tw1359830224848277088:T:=tq
theorem tw4494801613693538912:T:=tq
theorem tw16154546982801380032:T:=tq
theorem tw12070654863422294720:T:=tq
theorem tw16694946328126371552:T:=tq
theorem tw17183224562656869120:T:=tq
theorem tw15643275761693703936:T:=tq
theorem tw14598272352848978880:T:=tq
theorem tw17252143746492648416:T:=tq
theorem tw9955209858657692705:T:=tq
theorem tw10752148897807903841:T:=tq
theorem tw12127338746724423809:T:=tq
theorem tw7610815399733428385:T:=tq
theorem tw16858285156579221889:T:=tq
theorem tw1162550495960143265:T:=tq
theorem tw4111692666942324129:T:=tq
theorem tw4086058157674990017:T:=tq
theorem tw7512474625130614241:T:=tq
theorem tw15220180469806662145:T:=tq
theorem tw16037735763661986305:T:=tq
theorem tw2315301623876862497:T:=tq
theorem tw17336936450418997793:T:=tq
theorem tw18343703819029505601:T:=tq
theorem tw10678649693572172417:T:=tq
theorem tw5343241284826551009:T:=tq
theorem tw6046454685291232161:T:=tq
theorem tw12602439190401603521:T:=tq
theorem tw7914949630228597729:T:=tq
theorem tw11210553801493137410:T:=tq
theorem tw8609351116199087170:T:=tq
theorem tw10905682514733158466:T:=tq
theorem tw14745743045033390146:T:=tq
theorem tw5480042469492414594:T:=tq
theorem tw9731375825926819010:T:=tq
theorem tw4272726840584523970:T:=tq
theorem tw9430268157657104642:T:=tq
theorem tw13919464512627920130:T:=tq
theorem tw12936449754285732098:T:=tq
theorem tw4702841417184801058:T:=tq
theorem tw17588044629489971554:T:=tq
theorem tw12271959270614036898:T:=tq
theorem tw11713075325732132258:T:=tq
theorem tw11912922877643110818:T:=tq
theorem tw5781342201191254626:T:=tq
theorem tw5549315172176941698:T:=tq
theorem tw3919010098100093602:T:=tq
theorem tw5190246844813560578:T:=tq
theorem tw7525542149764818722:T:=tq
theorem tw9960721518486171458:T:=tq
theorem tw17895171251205151618:T:=tq
theorem tw18245042118932799458:T:=tq
theorem tw8228950375871286339:T:=tq
theorem tw1882180444382439491:T:=tq
theorem tw5318216170032084099:T:=tq
theorem tw2304311442786299043:T:=tq
theorem tw16904818350239718627:T:=tq
theorem tw17130151131035750659:T:=tq
theorem tw10847404155465417027:T:=tq
theorem tw1033889070964956483:T:=tq
theorem tw3229955645248102723:T:=tq
theorem tw5174551420813472067:T:=tq
theorem tw2783992281797965187:T:=tq
theorem tw11754176132448286083:T:=tq
theorem tw6411954120941647267:T:=tq
theorem tw1760603350576429475:T:=tq
theorem tw13368278939475635651:T:=tq
theorem tw17087091549796120035:T:=tq
theorem tw9153386212771759811:T:=tq
theorem tw11513968764499736323:T:=tq
theorem tw9908193460736022307:T:=tq
theorem tw2480057099694739299:T:=tq
theorem tw11631947586910100387:T:=tq
theorem tw18293851220164018083:T:=tq
theorem tw519851828213033955:T:=tq
theorem tw17843490464661113860:T:=tq
theorem tw16477043939570097188:T:=tq
theorem tw6060742912462422084:T:=tq
theorem tw6320253292602491972:T:=tq
theorem tw14896477498954680388:T:=tq
theorem tw8269573656231971908:T:=tq
theorem tw6407587892757256292:T:=tq
theorem tw17696971302532935780:T:=tq
theorem tw6785817131721698500:T:=tq
theorem tw5278057926702712004:T:=tq
theorem tw1299046323782801668:T:=tq
theorem tw10507497572311344420:T:=tq
theorem tw14892549342360969540:T:=tq
theorem tw13855946660403688772:T:=tq
theorem tw8068729725432388964:T:=tq
theorem tw3219085151875037572:T:=tq
theorem tw11465210709893060100:T:=tq
theorem tw8493152586797012548:T:=tq
theorem tw10949625832625181284:T:=tq
theorem tw17001982702790524580:T:=tq
theorem tw9013056391748086436:T:=tq
theorem tw5732804406350252772:T:=tq
theorem tw1241404454085649124:T:=tq
theorem tw8684328023851190084:T:=tq
theorem tw18241275227582772068:T:=tq
theorem tw8458067239894703972:T:=tq
theorem tw3789350110615891812:T:=tq
theorem tw13931416462566266981:T:=tq
theorem tw8356816923877370021:T:=tq
theorem tw7355570028127101125:T:=tq
theorem tw12414669353804360901:T:=tq
theorem tw2502866573005156581:T:=tq
theorem tw11375277706881905925:T:=tq
theorem tw6305734824756694309:T:=tq
theorem tw9702936160620672325:T:=tq
theorem tw10258999931320997221:T:=tq
theorem tw11893437276241958245:T:=tq
theorem tw15910714762333108613:T:=tq
theorem tw12399718760709695909:T:=tq
theorem tw4021928978595405253:T:=tq
theorem tw5976792059365374437:T:=tq
theorem tw1847840615245081061:T:=tq
theorem tw7721951785955056133:T:=tq
theorem tw15790720579355451973:T:=tq
theorem tw5167245352685981253:T:=tq
theorem tw128238443518577317:T:=tq
theorem tw11251137523995926341:T:=tq
theorem tw6438293893037913957:T:=tq
theorem tw173499572525703045:T:=tq
theorem tw5505005885091257285:T:=tq
theorem tw17491280204586788870:T:=tq
theorem tw6555240042291301478:T:=tq
theorem tw13181700845877081190:T:=tq
theorem tw10583446816852156582:T:=tq
theorem tw13466754112058979494:T:=tq
theorem tw7628703163842673926:T:=tq
theorem tw8268277133935991078:T:=tq
theorem tw16211521421427940678:T:=tq
theorem tw212345690472687942:T:=tq
theorem tw7523672394736509286:T:=tq
theorem tw3673020696563887462:T:=tq
theorem tw11778180911958503814:T:=tq
theorem tw991583007596301734:T:=tq
theorem tw2386827423013361158:T:=tq
theorem tw3795277891434052102:T:=tq
theorem tw13066319289922817542:T:=tq
theorem tw10424393626065333798:T:=tq
theorem tw2295870552580634182:T:=tq
theorem tw17258206423299326598:T:=tq
theorem tw17562767543260142214:T:=tq
theorem tw2195365466389143174:T:=tq
theorem tw13903934854276604550:T:=tq
theorem tw1865391376527767206:T:=tq
theorem tw4993660671451451078:T:=tq
theorem tw1506431575118746342:T:=tq
theorem tw8990313861142287110:T:=tq
theorem tw11587034568685482758:T:=tq
theorem tw13893168526513508166:T:=tq
theorem tw7153062008950511462:T:=tq
theorem tw9386895884608548742:T:=tq
theorem tw8934143017859847078:T:=tq
theorem tw1589133516308662214:T:=tq
theorem tw15043168886218598503:T:=tq
theorem tw10844753989422098599:T:=tq
theorem tw17893044597097874663:T:=tq
theorem tw11579183775450819847:T:=tq
theorem tw15683763237869141255:T:=tq
theorem tw17919194246423945575:T:=tq
theorem tw17062030032774818151:T:=tq
theorem tw8977307856219701671:T:=tq
theorem tw5635641802508607975:T:=tq
theorem tw9783614193127449063:T:=tq
theorem tw3109861748172591687:T:=tq
theorem tw9557236495431379559:T:=tq
theorem tw13280443560766958183:T:=tq
theorem tw12058812876911547015:T:=tq
theorem tw12901994302517312135:T:=tq
theorem tw4449123307109862055:T:=tq
theorem tw11660266114150955751:T:=tq
theorem tw7068711184596962023:T:=tq
theorem tw5054737718236178183:T:=tq
theorem tw8960069828448710407:T:=tq
theorem tw17672654358674132775:T:=tq
theorem tw17103042934961309479:T:=tq
theorem tw6469175993241445255:T:=tq
theorem tw7028611270464810887:T:=tq
theorem tw701787995468756871:T:=tq
theorem tw8585376936270615527:T:=tq
theorem tw8545014587354053640:T:=tq
theorem tw190519026028168232:T:=tq
theorem tw4282304852377368616:T:=tq
theorem tw8671608845466749128:T:=tq
theorem tw13642289790063256904:T:=tq
theorem tw10246146449241189800:T:=tq
theorem tw16920754564084929960:T:=tq
theorem tw12949589719889679912:T:=tq
theorem tw14457593812595234344:T:=tq
theorem tw18268791191939849864:T:=tq
theorem tw2708950531961675432:T:=tq
theorem tw4642405928176397000:T:=tq
theorem tw4297731678662094536:T:=tq
theorem tw162610821266807592:T:=tq
theorem tw4870687313549177768:T:=tq
theorem tw6627881031435992008:T:=tq
theorem tw11011131195910976488:T:=tq
theorem tw3259873300814134281:T:=tq
theorem tw189712035060473897:T:=tq
theorem tw8959176491354863721:T:=tq
theorem tw4225703048834024713:T:=tq
theorem tw8652628183442184457:T:=tq
theorem tw14906377314874228009:T:=tq
theorem tw9244321171653502345:T:=tq
theorem tw1129884963351977449:T:=tq
theorem tw8184699220007379433:T:=tq
theorem tw3350844169311001129:T:=tq
theorem tw5009564483982726761:T:=tq
theorem tw17925215291927510665:T:=tq
theorem tw663384727985864361:T:=tq
theorem tw2635901220451274409:T:=tq
theorem tw15801637453660337897:T:=tq
theorem tw9566141503761928105:T:=tq
theorem tw5148922909946612681:T:=tq
theorem tw3915529967508079626:T:=tq
theorem tw18264374347568628810:T:=tq
theorem tw15042006015671813226:T:=tq
theorem tw6906073325868019850:T:=tq
theorem tw13217225542625558698:T:=tq
theorem tw7120233287515763914:T:=tq
theorem tw6898005170327248138:T:=tq
theorem tw15030894091695109418:T:=tq
theorem tw9406673726873002282:T:=tq
theorem tw6804821044290156842:T:=tq
theorem tw16794629799341752650:T:=tq
theorem tw7654286748164834634:T:=tq
theorem tw5416991563250132298:T:=tq
theorem tw4383666589626881386:T:=tq
theorem tw9983995961361265002:T:=tq
theorem tw17447410573909459338:T:=tq
theorem tw2352750151352029642:T:=tq
theorem tw14492701947808656938:T:=tq
theorem tw6528754448969337418:T:=tq
theorem tw10603584201595350602:T:=tq
theorem tw4360684699965382250:T:=tq
theorem tw9132557439983319658:T:=tq
theorem tw10170382586518783626:T:=tq
theorem tw18385348092688986762:T:=tq
theorem tw1563692795949630186:T:=tq
theorem tw12487502673411948298:T:=tq
theorem tw4478964076566166474:T:=tq
theorem tw12112201142124510154:T:=tq
theorem tw9271970288684553227:T:=tq
theorem tw12239354291974867115:T:=tq
theorem tw11128854368766332075:T:=tq
theorem tw13277076834127875243:T:=tq
theorem tw3443669649825651883:T:=tq
theorem tw12832683148521936107:T:=tq
theorem tw18176940659606848779:T:=tq
theorem tw11917015161858427179:T:=tq
theorem tw9170477692918782315:T:=tq
theorem tw17070941380808615275:T:=tq
theorem tw10030107230732127627:T:=tq
theorem tw15463257786427224491:T:=tq
theorem tw17054507655720011243:T:=tq
theorem tw6683769817339685419:T:=tq
theorem tw7534799579077118603:T:=tq
theorem tw9741134391959003819:T:=tq
theorem tw15089522573102190283:T:=tq
theorem tw10743916045514856203:T:=tq
theorem tw9748044761591592747:T:=tq
theorem tw8727321023445011275:T:=tq
theorem tw2999033326186475339:T:=tq
theorem tw8242931771332617035:T:=tq
theorem tw6196171512934965099:T:=tq
theorem tw8716120427605611371:T:=tq
theorem tw978945382295711627:T:=tq
theorem tw6264232113106981867:T:=tq
theorem tw4315991029959535628:T:=tq
theorem tw1836080755315867724:T:=tq
theorem tw6394381022753523788:T:=tq
theorem tw9857393182710283340:T:=tq
theorem tw12647368939536790636:T:=tq
theorem tw1043307727769730188:T:=tq
theorem tw14060154772996877548:T:=tq
theorem tw16299908979028503884:T:=tq
theorem tw12092154237167983948:T:=tq
theorem tw17711083657039698284:T:=tq
theorem tw12575139184659369484:T:=tq
theorem tw6482722132109649516:T:=tq
theorem tw5130813555471234732:T:=tq
theorem tw8004679753235328684:T:=tq
theorem tw17948085552500728524:T:=tq
theorem tw18185175575083235020:T:=tq
theorem tw12588582704262371052:T:=tq
theorem tw7270182246851987180:T:=tq
theorem tw10292235466723388172:T:=tq
theorem tw6819123309680001836:T:=tq
theorem tw15368132723985388332:T:=tq
theorem tw12023040214023829324:T:=tq
theorem tw16171809288044610508:T:=tq
theorem tw10781468475247234061:T:=tq
theorem tw15837987909243819085:T:=tq
theorem tw1409312971732116557:T:=tq
theorem tw257007361410690125:T:=tq
theorem tw16332348944364537037:T:=tq
theorem tw1013155817946168525:T:=tq
theorem tw13321331477185743149:T:=tq
theorem tw16919406825032445293:T:=tq
theorem tw16345102440705955213:T:=tq
theorem tw8457440626546761165:T:=tq
theorem tw4377701919642642989:T:=tq
theorem tw3404104791013757517:T:=tq
theorem tw16828841361933241965:T:=tq
theorem tw6184208073178115725:T:=tq
theorem tw4068527845204499245:T:=tq
theorem tw16240987189780228909:T:=tq
theorem tw17606422857730326317:T:=tq
theorem tw11249132867342737325:T:=tq
theorem tw10404513684093684653:T:=tq
theorem tw13929354066492186541:T:=tq
theorem tw9577689765879766989:T:=tq
theorem tw1088296927520436173:T:=tq
theorem tw10614716105012338702:T:=tq
theorem tw11801993109049149486:T:=tq
theorem tw9398405308114057262:T:=tq
theorem tw14980023328507725902:T:=tq
theorem tw11968265576560266318:T:=tq
theorem tw7880807054014371918:T:=tq
theorem tw12471131715012749390:T:=tq
theorem tw14294001040229213422:T:=tq
theorem tw4654797750381630734:T:=tq
theorem tw17311223219408574766:T:=tq
theorem tw9617658007855726926:T:=tq
theorem tw185848376630758926:T:=tq
theorem tw3429492842335990350:T:=tq
theorem tw1781861727890032366:T:=tq
theorem tw9555612238305686254:T:=tq
theorem tw4159134105002834734:T:=tq
theorem tw16722109127936396110:T:=tq
theorem tw14553816603554493358:T:=tq
theorem tw12268275109542032366:T:=tq
theorem tw6818987989461384207:T:=tq
theorem tw13363553139645760527:T:=tq
theorem tw1452849714261714991:T:=tq
theorem tw10111616816639369327:T:=tq
theorem tw15616948245753086127:T:=tq
theorem tw2442259710966052079:T:=tq
theorem tw8587404781116728655:T:=tq
theorem tw6082411064634330575:T:=tq
theorem tw3759623122121258479:T:=tq
theorem tw12631932088317031055:T:=tq
theorem tw10012880186880212623:T:=tq
theorem tw11709330566771433103:T:=tq
theorem tw5987830557187376847:T:=tq
theorem tw6990203504111849199:T:=tq
theorem tw2101469004524951375:T:=tq
theorem tw11319892378374348655:T:=tq
theorem tw9657781627882305391:T:=tq
theorem tw13315533130655954831:T:=tq
theorem tw8879563391730754479:T:=tq
theorem tw16649331688326792143:T:=tq
theorem tw1197925565968671727:T:=tq
theorem tw15207398651663016943:T:=tq
theorem tw10111801491309104144:T:=tq
theorem tw8801323125487838256:T:=tq
theorem tw15427206886491885616:T:=tq
theorem tw16011055738799735888:T:=tq
theorem tw1017328040139425936:T:=tq
theorem tw10216474801634566288:T:=tq
theorem tw10491609206876299696:T:=tq
theorem tw7891253978561527248:T:=tq
theorem tw16853341256802265648:T:=tq
theorem tw13285133528070534704:T:=tq
theorem tw10196642906408297072:T:=tq
theorem tw7382370116671421104:T:=tq
theorem tw1712922718373300912:T:=tq
theorem tw4856431653887292112:T:=tq
theorem tw13518370688599389936:T:=tq
theorem tw11551083187376567056:T:=tq
theorem tw8351282476255451920:T:=tq
theorem tw15595854959937240912:T:=tq
theorem tw12614811148066621264:T:=tq
theorem tw15279998641719260112:T:=tq
theorem tw3434918251397683217:T:=tq
theorem tw13790719812936386609:T:=tq
theorem tw876933089483189297:T:=tq
theorem tw13322179722446271537:T:=tq
theorem tw15527848837575444561:T:=tq
theorem tw17213754286329925777:T:=tq
theorem tw5247051413645994129:T:=tq
theorem tw2000490053193787569:T:=tq
theorem tw280609765759037681:T:=tq
theorem tw432457690288141553:T:=tq
theorem tw14705683404202351889:T:=tq
theorem tw100483095206116625:T:=tq
theorem tw17903497710992402801:T:=tq
theorem tw16634568088961857937:T:=tq
theorem tw16056359734778111409:T:=tq
theorem tw7082855905992002993:T:=tq
theorem tw11034497122203965937:T:=tq
theorem tw8015326511298524721:T:=tq
theorem tw13220430256171166289:T:=tq
theorem tw3828038474966422129:T:=tq
theorem tw12113243949977362033:T:=tq
theorem tw5961118342813265553:T:=tq
theorem tw8117029840178788049:T:=tq
theorem tw4990156530697904881:T:=tq
theorem tw6545403380812914513:T:=tq
theorem tw7317836474542784337:T:=tq
theorem tw6578402527460240241:T:=tq
theorem tw16053994301053490033:T:=tq
theorem tw5716766192118558609:T:=tq
theorem tw16029623286316568529:T:=tq
theorem tw8683856772340465682:T:=tq
theorem tw2391449824757734642:T:=tq
theorem tw8025032847418708242:T:=tq
theorem tw9641152695372364146:T:=tq
theorem tw9499510787657705874:T:=tq
theorem tw15813434630575017362:T:=tq
theorem tw14772383043592177042:T:=tq
theorem tw7754304195085646258:T:=tq
theorem tw5366084841770067474:T:=tq
theorem tw2167537188350426706:T:=tq
theorem tw5282504435634884242:T:=tq
theorem tw17377529257436501650:T:=tq
theorem tw250903467453971090:T:=tq
theorem tw16257038226119295666:T:=tq
theorem tw1580110805410547442:T:=tq
theorem tw8053944837975664402:T:=tq
theorem tw14560493823538711346:T:=tq
theorem tw10525666975642140466:T:=tq
theorem tw9298403506768410418:T:=tq
theorem tw12629568148972539762:T:=tq
theorem tw6293948785866598258:T:=tq
theorem tw7296583596125217682:T:=tq
theorem tw8112040973832200146:T:=tq
theorem tw1097998534492414930:T:=tq
theorem tw15083628210047938546:T:=tq
theorem tw10601615944963115059:T:=tq
theorem tw17429513623812275283:T:=tq
theorem tw8538877666451538035:T:=tq
theorem tw3694398316872202419:T:=tq
theorem tw9184186324627900627:T:=tq
theorem tw10806950440038215891:T:=tq
theorem tw5657824000916062451:T:=tq
theorem tw17454471701868102899:T:=tq
theorem tw5567388512258382067:T:=tq
theorem tw5238241317806426387:T:=tq
theorem tw7289634563603522867:T:=tq
theorem tw16945582573551092051:T:=tq
theorem tw16502264421070913907:T:=tq
theorem tw16006246977917349235:T:=tq
theorem tw16432713993328977331:T:=tq
theorem tw7793673504863384051:T:=tq
theorem tw5363564295841288755:T:=tq
theorem tw11151547217846952531:T:=tq
theorem tw18103342009636024947:T:=tq
theorem tw4115565904173853331:T:=tq
theorem tw3008623586974134963:T:=tq
theorem tw920214292312260371:T:=tq
theorem tw16640546478005224243:T:=tq
theorem tw15948780112781908787:T:=tq
theorem tw4015398097383911347:T:=tq
theorem tw13409441903868389331:T:=tq
theorem tw8789358453043137523:T:=tq
theorem tw18103420901670897651:T:=tq
theorem tw4851647983119433812:T:=tq
theorem tw4367231431732253908:T:=tq
theorem tw6164396464334811476:T:=tq
theorem tw7540655947842036084:T:=tq
theorem tw6547078798241139092:T:=tq
theorem tw15422856539912107476:T:=tq
theorem tw7366208706002141716:T:=tq
theorem tw9502423252354950708:T:=tq
theorem tw4014540891139286612:T:=tq
theorem tw7540741092611519060:T:=tq
theorem tw11256106856564762260:T:=tq
theorem tw18293732401869909652:T:=tq
theorem tw9131607905817354932:T:=tq
theorem tw697623264460660564:T:=tq
theorem tw1997569388931296116:T:=tq
theorem tw226724450230711188:T:=tq
theorem tw17542962492245011380:T:=tq
theorem tw5629675986466331604:T:=tq
theorem tw6598312636042714100:T:=tq
theorem tw1439246655266547700:T:=tq
theorem tw13566260322249332789:T:=tq
theorem tw17234923516513369237:T:=tq
theorem tw11162318198679636149:T:=tq
theorem tw9496365245306024149:T:=tq
theorem tw13225837485096350037:T:=tq
theorem tw6442067068224118133:T:=tq
theorem tw14103535550066685397:T:=tq
theorem tw10264135568141901301:T:=tq
theorem tw2608437505485318709:T:=tq
theorem tw17673860158736603733:T:=tq
theorem tw3571134770919094901:T:=tq
theorem tw16357263729072622229:T:=tq
theorem tw12173100003817136821:T:=tq
theorem tw7494724483528729301:T:=tq
theorem tw15508949281206285077:T:=tq
theorem tw12459740579856956213:T:=tq
theorem tw16302227732802510677:T:=tq
theorem tw13609717118414637909:T:=tq
theorem tw13483081372092288885:T:=tq
theorem tw1666387254794493845:T:=tq
theorem tw9427301549700849589:T:=tq
theorem tw3941438180925939637:T:=tq
theorem tw1425423193147277237:T:=tq
theorem tw6820862383352777685:T:=tq
theorem tw10919297434634762262:T:=tq
theorem tw8965841893048198262:T:=tq
theorem tw8343274005884668182:T:=tq
theorem tw1848646778235469078:T:=tq
theorem tw1413172679324656950:T:=tq
theorem tw16473244170626142550:T:=tq
theorem tw16713699803418581334:T:=tq
theorem tw3452082135128663414:T:=tq
theorem tw15610959940260225430:T:=tq
theorem tw11213053971927718326:T:=tq
theorem tw16155205043701107222:T:=tq
theorem tw7752767780024739350:T:=tq
theorem tw17420951861521290806:T:=tq
theorem tw7369741819223213686:T:=tq
theorem tw1011335219593555734:T:=tq
theorem tw8428860471423672150:T:=tq
theorem tw4138081844389336918:T:=tq
theorem tw9440118169554580438:T:=tq
theorem tw15367242080415987702:T:=tq
theorem tw6184460063843016694:T:=tq
theorem tw15615537253650120727:T:=tq
theorem tw14029546391885035639:T:=tq
theorem tw2216850387143573719:T:=tq
theorem tw2448417245163862455:T:=tq
theorem tw5283464899586487735:T:=tq
theorem tw16970440968685349367:T:=tq
theorem tw3442329435671937591:T:=tq
theorem tw13783031573616600631:T:=tq
theorem tw16064382804478563927:T:=tq
theorem tw7292484366425897655:T:=tq
theorem tw12393119488966705847:T:=tq
theorem tw3381375190539634487:T:=tq
theorem tw11402939732021071671:T:=tq
theorem tw307737655149646647:T:=tq
theorem tw10879034167726328663:T:=tq
theorem tw11389486352061984695:T:=tq
theorem tw2134215046882385847:T:=tq
theorem tw11136197038861592535:T:=tq
theorem tw2788664435532181463:T:=tq
theorem tw6140570298594658328:T:=tq
theorem tw2951005344575393816:T:=tq
theorem tw15946388913382835224:T:=tq
theorem tw9345676750909349944:T:=tq
theorem tw10208501265060282424:T:=tq
theorem tw16456969618363192440:T:=tq
theorem tw18300207936620678264:T:=tq
theorem tw5562173858411828344:T:=tq
theorem tw17650839729002327288:T:=tq
theorem tw2799067240506288376:T:=tq
theorem tw18093812233618175256:T:=tq
theorem tw2274498078352570744:T:=tq
theorem tw15759970867653108152:T:=tq
theorem tw14768889098011018680:T:=tq
theorem tw5511420028821071320:T:=tq
theorem tw26425463804135960:T:=tq
theorem tw13267510147771200024:T:=tq
theorem tw12769127236821124696:T:=tq
theorem tw15048261121198461528:T:=tq
theorem tw14176624398918483544:T:=tq
theorem tw10727248033764811480:T:=tq
theorem tw8770205317985620760:T:=tq
theorem tw10860895700388868024:T:=tq
theorem tw7567354028667482104:T:=tq
theorem tw12994019391074448376:T:=tq
theorem tw15987713032478767096:T:=tq
theorem tw4065347644161347641:T:=tq
theorem tw13342606739435360313:T:=tq
theorem tw4788038989552484473:T:=tq
theorem tw732345407407602841:T:=tq
theorem tw1588505670450824345:T:=tq
theorem tw728884934406724761:T:=tq
theorem tw15213948185873263833:T:=tq
theorem tw2603259988358896889:T:=tq
theorem tw2845679848157327705:T:=tq
theorem tw18291419657060728153:T:=tq
theorem tw15411387601460861337:T:=tq
theorem tw1222794163293265305:T:=tq
theorem tw10784824025267889561:T:=tq
theorem tw11054480109507316185:T:=tq
theorem tw3953601041324332601:T:=tq
theorem tw12350410155528471161:T:=tq
theorem tw881544763273948857:T:=tq
theorem tw16772102934027710169:T:=tq
theorem tw17574625026820762457:T:=tq
theorem tw17330945745186091897:T:=tq
theorem tw1789384378930872249:T:=tq
theorem tw8081886968326746073:T:=tq
theorem tw6982297934935202809:T:=tq
theorem tw22551697357593593:T:=tq
theorem tw17047115858639842297:T:=tq
theorem tw13047593935725612058:T:=tq
theorem tw7854228177987924090:T:=tq
theorem tw5902613922787404954:T:=tq
theorem tw11953376511379268794:T:=tq
theorem tw541196102884509978:T:=tq
theorem tw12050417470231563642:T:=tq
theorem tw2114630138375439770:T:=tq
theorem tw5592360268479517082:T:=tq
theorem tw464777395874653626:T:=tq
theorem tw1147470481896660410:T:=tq
theorem tw6868836192036940282:T:=tq
theorem tw9421340871869096474:T:=tq
theorem tw1600037746751723098:T:=tq
theorem tw7526368328331116154:T:=tq
theorem tw10116813279655377562:T:=tq
theorem tw5373601922739893978:T:=tq
theorem tw14960593345356199642:T:=tq
theorem tw16157073509204512506:T:=tq
theorem tw7598622570094877466:T:=tq
theorem tw11232374478483605306:T:=tq
theorem tw12394076208661396346:T:=tq
theorem tw11652457597714270106:T:=tq
theorem tw13038990169509382042:T:=tq
theorem tw8273930003744585626:T:=tq
theorem tw1610171440888473627:T:=tq
theorem tw7927469264209771579:T:=tq
theorem tw13372043803930879067:T:=tq
theorem tw11032806212648032379:T:=tq
theorem tw15103106377680225435:T:=tq
theorem tw11079593142295127227:T:=tq
theorem tw128412058910260475:T:=tq
theorem tw15675198926951892251:T:=tq
theorem tw14478148883734587675:T:=tq
theorem tw6767318904944593275:T:=tq
theorem tw10024716035694756283:T:=tq
theorem tw13828106393651249627:T:=tq
theorem tw17491317419825422843:T:=tq
theorem tw5388632664720090651:T:=tq
theorem tw3085183777334472315:T:=tq
theorem tw2068664650715991707:T:=tq
theorem tw9719896912496429819:T:=tq
theorem tw17177331786930743035:T:=tq
theorem tw461538923250603899:T:=tq
theorem tw15642763164714097627:T:=tq
theorem tw13770079208771991547:T:=tq
theorem tw1118553966540926140:T:=tq
theorem tw11319097763535126812:T:=tq
theorem tw395138700845864316:T:=tq
theorem tw12591134339009171964:T:=tq
theorem tw16091413853298234908:T:=tq
theorem tw7085514621470718492:T:=tq
theorem tw2887051446865420828:T:=tq
theorem tw7578210074245671484:T:=tq
theorem tw1699103778626983548:T:=tq
theorem tw3451239065008710300:T:=tq
theorem tw17599816209265215132:T:=tq
theorem tw2327210489368252092:T:=tq
theorem tw2252305205657439004:T:=tq
theorem tw4182648748547736412:T:=tq
theorem tw1194904439430580092:T:=tq
theorem tw4402725079659364252:T:=tq
theorem tw1331086792558400476:T:=tq
theorem tw14852329139284432860:T:=tq
theorem tw11117797201346649052:T:=tq
theorem tw17986969038992634876:T:=tq
theorem tw13289513938125300765:T:=tq
theorem tw922143313871775805:T:=tq
theorem tw7010584846471099517:T:=tq
theorem tw17605410148220273821:T:=tq
theorem tw4363365295628954845:T:=tq
theorem tw15992342658441690333:T:=tq
theorem tw17714235663813219645:T:=tq
theorem tw2457190517430149469:T:=tq
theorem tw2855845756224970109:T:=tq
theorem tw16868993833207775613:T:=tq
theorem tw4478177076189095293:T:=tq
theorem tw6924109203229866365:T:=tq
theorem tw10792051664901133789:T:=tq
theorem tw5608270528595127837:T:=tq
theorem tw13532847315355080253:T:=tq
theorem tw7763873220885509757:T:=tq
theorem tw3646829019195819677:T:=tq
theorem tw3704167492566942397:T:=tq
theorem tw526207354791536317:T:=tq
theorem tw15967140613478806237:T:=tq
theorem tw15578025631644234493:T:=tq
theorem tw845060206244984605:T:=tq
theorem tw8226494294326810461:T:=tq
theorem tw221497870779424605:T:=tq
theorem tw15833661619300960221:T:=tq
theorem tw9571657101598308349:T:=tq
theorem tw9277588360372424766:T:=tq
theorem tw3182187488490625086:T:=tq
theorem tw16194383521188589630:T:=tq
theorem tw11631869004601391166:T:=tq
theorem tw7746578258024575070:T:=tq
theorem tw9673543361469618366:T:=tq
theorem tw6123773746684550334:T:=tq
theorem tw6838551448383532254:T:=tq
theorem tw4643362625855044894:T:=tq
theorem tw13638418597567726942:T:=tq
theorem tw16259696140248634718:T:=tq
theorem tw4172343393113369950:T:=tq
theorem tw17681399029576232318:T:=tq
theorem tw13431754692932380062:T:=tq
theorem tw8664936974563722654:T:=tq
theorem tw17901334829092211166:T:=tq
theorem tw17739348878880393726:T:=tq
theorem tw2329189449893159454:T:=tq
theorem tw9533747618267967006:T:=tq
theorem tw3480954088277226078:T:=tq
theorem tw9763420282994701918:T:=tq
theorem tw7510230149288206974:T:=tq
theorem tw12744807935193187038:T:=tq
theorem tw8047900516022102942:T:=tq
theorem tw14620637471214046174:T:=tq
theorem tw1556766022789300190:T:=tq
theorem tw6423634429210846174:T:=tq
theorem tw14955159897011116063:T:=tq
theorem tw6931407450589930559:T:=tq
theorem tw12070051907170230399:T:=tq
theorem tw3530705653197291679:T:=tq
theorem tw4478166936697009375:T:=tq
theorem tw1954109241102656831:T:=tq
theorem tw5505332120971382143:T:=tq
theorem tw2284436838669742495:T:=tq
theorem tw12611767792052310623:T:=tq
theorem tw10543509907540572799:T:=tq
theorem tw5245234834050458271:T:=tq
theorem tw442638132926106271:T:=tq
theorem tw14400467628812073631:T:=tq
theorem tw3309697970292668127:T:=tq
theorem tw7519716089354478335:T:=tq
theorem tw14685462170515437407:T:=tq
theorem tw289129281018144335:T:=tq
end hd
set_option Elab.async true in
theorem hd:PySem.Challenge.rw_nn0227_01.Holds:=by
 w_on;o_law;k_head;(case hw=>w_witness2)
 exact finish rfl fun P=>{d3:=by kernel_rfl,t1:=by kernel_rfl,t2:=by kernel_rfl,fns:=by kernel_rfl,texts:=by kernel_rfl,mth:=by kernel_rfl,mtexts:=by kernel_rfl,dfn:=by kernel_rfl,blt:=by kernel_rfl,con:=by kernel_rfl,refs:=by kernel_rfl,d58:=by kernel_rfl,d36:=by kernel_rfl,d202:=by kernel_rfl,d292:=by kernel_rfl,c32:=⟨by kernel_rfl,by kernel_rfl⟩,c76:=⟨by kernel_rfl,by kernel_rfl⟩,tf:=⟨_,_,_,_,_,_,_,_,_,_,_,_,_,_,_,rfl⟩,tfk:=by kernel_rfl,tfi:=⟨by kernel_rfl,by kernel_rfl⟩,exs:=by kernel_rfl,exh:=by kernel_rfl,exw:=by kernel_rfl,exa:=by kernel_rfl,find:=by kernel_rfl,cls:=by kernel_rfl,sN:=⟨by kernel_rfl,by kernel_rfl,by kernel_rfl,by kernel_rfl⟩,sS1:=⟨by kernel_rfl,by kernel_rfl,by kernel_rfl,by kernel_rfl⟩,sS2:=⟨by kernel_rfl,by kernel_rfl,by kernel_rfl,by kernel_rfl⟩,sR1:=⟨by kernel_rfl,by kernel_rfl,by kernel_rfl,by kernel_rfl⟩,sR2:=⟨by kernel_rfl,by kernel_rfl,by kernel_rfl,by kernel_rfl⟩,sH1:=⟨by kernel_rfl,by kernel_rfl,by kernel_rfl,by kernel_rfl⟩,sH2:=⟨by kernel_rfl,by kernel_rfl,by kernel_rfl,by kernel_rfl⟩,mFe:=⟨by kernel_rfl,by kernel_rfl,by kernel_rfl⟩,mGe:=⟨by kernel_rfl,by kernel_rfl,by kernel_rfl⟩,mAd:=⟨by kernel_rfl,by kernel_rfl,by kernel_rfl⟩,mRo:=⟨by kernel_rfl,by kernel_rfl,by kernel_rfl⟩,aTable:=⟨by kernel_rfl,by kernel_rfl,by kernel_rfl⟩,aTrailer:=⟨by kernel_rfl,by kernel_rfl,by kernel_rfl⟩,aNumber:=⟨by kernel_rfl,by kernel_rfl,by kernel_rfl⟩,aGen:=⟨by kernel_rfl,by kernel_rfl,by kernel_rfl⟩,aText:=⟨by kernel_rfl,by kernel_rfl,by kernel_rfl⟩,aOct:=⟨by kernel_rfl,by kernel_rfl,by kernel_rfl⟩,nN:=⟨by kernel_rfl,by kernel_rfl,by kernel_rfl,by kernel_rfl,by kernel_rfl,by kernel_rfl⟩,nS:=⟨by kernel_rfl,by kernel_rfl,by kernel_rfl,by kernel_rfl,by kernel_rfl,by kernel_rfl⟩,bs:=by kernel_rfl}
end Mine
theorem PySem.Challenge.cw_nn0227_01_holds : PySem.Challenge.rw_nn0227_01.Holds :=
 Mine.hd
