import PyProof.Rows.All
import OpenK.KOwn
import KE.KBits
import Lean
import PySem.Challenge.RW_nu0280_01
set_option maxRecDepth 1000000
set_option genSizeOf false
set_option genInjectivity false
set_option Elab.async false
set_option linter.all false
set_option tactic.hygienic false
set_option backward.match.sparseCases false
set_option genCtorIdx false
set_option bootstrap.genMatcherCode false
noncomputable section
namespace Mine
def ag{α:Sort _}{a b c:α}(h:a=b)(k:a=c):b=c:=h.symm.trans k
def ai:True:=trivial
abbrev I:=@Classical.byContradiction
abbrev av:=@Nat.le_add_left_of_le
abbrev ar:=@Nat.le_add_right
abbrev az:=@False.elim
abbrev ak:=@absurd
abbrev aD:=@Nat.zero_add
abbrev aE:=@Nat.le_succ
abbrev aR:=@Nat.le_of_ble_eq_true
abbrev aS:=@Nat.add_le_add_right
abbrev a5:=@Nat.le_add_left
abbrev ba:=@Nat.lt_succ_self
abbrev a_:=@Nat.le_of_lt
abbrev bz:=@Nat.succ.inj
abbrev bg:=@Nat.add_le_add_left
abbrev bD:=@Nat.lt_of_sub_eq_succ
abbrev bE:=@Nat.add_sub_cancel'
abbrev bA:=@decide_eq_true
abbrev bP:=@Bool.false_ne_true
abbrev aO:=@if_pos
abbrev bc:=@if_neg
abbrev eX:=@Nat.lt_of_le_of_ne
abbrev cb:=@Nat.le_add_right_of_le
abbrev bU:=@Nat.lt_add_of_pos_right
abbrev bx:=@Nat.le_of_eq
abbrev bS:=@Nat.add_assoc
abbrev cF:=@Nat.succ_add_eq_add_succ
abbrev aN:=@List.cons_ne_nil
abbrev cm:=@Nat.ne_of_lt
abbrev bJ:=@Nat.le_antisymm
section
noncomputable def jB{α:Sort _}(x:α)(y:Nat->α)(d:Nat):α:=Nat.rec x (λd Z=>y d) d
def p9(f:Nat):Nat->Nat:=Nat.rec (λN=>N) (λZ R N=>jB (R (R (N.div 16))) (jB (N.div 256) (jB (N.div 65536) (jB (R (N.div 256)) (jB (R (N.div 256)) λZ=>N.div 16)))) (N.mod 16)) f
def zrd{α}(n v:Nat->α)(a:α->α->α)(m w:Nat->α->α)(f:Nat):Nat->α:=Nat.rec (λN=>n 0) (λf R N=>jB (a (R (N.div 16)) (R (p9 f (N.div 16)))) (jB (n ((N.div 16).mod 16)) (jB (n ((N.div 16).mod 4096)) (jB (m ((N.div 16).mod 16) (R (N.div 256))) (jB (w ((N.div 16).mod 16) (R (N.div 256))) v)))) (N.mod 16)) f
noncomputable def wU:List Nat->List Nat->List Nat|[],l=>l|x::l,[]=>x::l|x::l,y::m=>(x+y)::wU l m
noncomputable def uT(k:Nat):List Nat->List Nat|[]=>[]|x::l=>(k*x)::uT k l
noncomputable def TC:Nat->List Nat|0=>[1]|i+1=>0::TC i
noncomputable def i6:List Nat->List Nat->Nat|c::l,x::r=>c*x+i6 l r|_,_=>0
def aae:∀l,i6 l []=0|[]=>rfl|_::_=>rfl
theorem oO:∀l m r,i6 (wU l m) r=i6 l r+i6 m r
|[],m,r=>(aD _).symm
|_::_,[],r=>rfl
|x::l,y::m,[]=>rfl
|x::l,y::m,z::r=>by show(x+y)*z+i6 (wU l m) r=_;rw[oO,Nat.add_mul];exact Nat.add_add_add_comm ..
theorem mG(k):∀l r,i6 (uT k l) r=k*i6 l r
|[],_=>rfl
|_::_,[]=>rfl
|x::l,z::r=>by show k*x*z+i6 (uT k l) r=_;rw[mG,Nat.mul_assoc];exact(Nat.mul_add ..).symm
theorem EL:∀i r,i6 (TC i) r=r.getD i 0
|_,[]=>aae _
|0,z::r=>Nat.one_mul z
|i+1,z::r=>((congrArg (·+_) (Nat.zero_mul z)).trans (aD _)).trans (EL i r)
def Sl(ρ:List Nat):Nat->Nat:=List.rec (λZ=>0) (λx Z k i=>jB x k i) ρ
theorem zW:∀ρ i,Sl ρ i=ρ.getD i 0|[],_=>rfl|_::_,0=>rfl|_::r,i+1=>zW r i
def uU:=zrd (λk=>[k]) (λi=>0::TC i) wU uT uT
def IG(ρ:List Nat):=zrd (λk=>k) (Sl ρ) (λx y=>x+y) (λk x=>k*x) (λk x=>x*k)
def uk(ρ)(f):∀N,IG ρ f N=i6 (uU f N) (1::ρ):=f.rec (λN=>rfl) λf k N=>by
 show jB _ _ (N.mod 16)=i6 (jB _ _ (N.mod 16):List Nat) _;generalize N.mod 16=z;obtain _|_|_|_|_|i:=z
 ·exact((oO (uU f (N.div 16)) (uU f (p9 f (N.div 16))) (1::ρ)).trans (by rw[<-k,<-k];rfl)).symm
 ·exact(Nat.mul_one _).symm
 ·exact(Nat.mul_one _).symm
 ·exact((mG _ (uU f (N.div 256)) (1::ρ)).trans (congrArg _ (k _).symm)).symm
 ·exact((mG _ (uU f (N.div 256)) (1::ρ)).trans ((congrArg _ (k _).symm).trans (Nat.mul_comm ..))).symm
 ·exact((congrArg (·+_) (Nat.zero_mul 1)).trans ((aD _).trans ((EL _ _).trans (zW _ _).symm))).symm
def EM(a b:Nat):Nat->Prop:=jB (a<=b) (jB (a<b) λZ=>a=b)
def zst(ρ:List Nat)(g:Prop)(k:Nat):Nat->Prop:=Nat.rec (λZ=>g) (λZ s N=>jB g (λr=>EM (IG ρ 40 (N.div 256)) (IG ρ 40 (p9 40 (N.div 256))) r->s (p9 40 (p9 40 (N.div 256)))) (N.mod 16)) k
noncomputable def IH:List Nat->List Nat->Bool|[],_=>true|x::l,[]=>x.beq 0&&IH l []|x::l,y::m=>Nat.ble x y&&IH l m
theorem qL:∀l m r,IH l m=true->i6 l r<=i6 m r
|[],_,_,_=>Nat.zero_le _
|_::_,_,[],_=>Nat.zero_le _
|x::l,[],z::r,h=>by
 have h:=Bool.and_eq_true_iff.1 h;cases Nat.eq_of_beq_eq_true h.1;show 0*z+i6 l r<=0;rw[Nat.zero_mul,aD];exact qL l [] r h.2
|x::l,y::m,z::r,h=>
 have h:=Bool.and_eq_true_iff.1 h
 Nat.add_le_add (Nat.mul_le_mul_right z (aR h.1)) (qL l m r h.2)
def zlo(x y:List Nat):Nat->List Nat:=jB x (jB (wU x [1]) (jB x λZ=>y))
def zlg(x:List Nat):Nat->List Nat:=jB x (jB (wU x [1]) λZ=>x)
def zup(x y:List Nat):Nat->List Nat:=jB y (jB y (jB y λZ=>x))
def TF(e:Bool)(A B:List Nat):Bool:=IH A B&&(e||IH B A)
def zck(e:Bool)(k:Nat):Nat->List Nat->List Nat->Bool:=Nat.rec (λZ=>TF e) (λZ c N A B=>jB (TF e A B) (λr=>(e||(2).ble r)&&c (p9 40 (p9 40 (N.div 256))) (wU A (uT ((N.div 16).mod 16) (zup (uU 40 (N.div 256)) (uU 40 (p9 40 (N.div 256))) r))) (wU B (uT ((N.div 16).mod 16) (zlo (uU 40 (N.div 256)) (uU 40 (p9 40 (N.div 256))) r)))) (N.mod 16)) k
def uV(a b:Nat):Bool->Prop|true=>a<=b|_=>a=b
def II{e a b c d}(h:uV (a+c) (b+d) e)(k:uV d c e):uV a b e:=by
 cases e
 ·exact Nat.add_right_cancel (h.trans (congrArg (b+·) k))
 ·exact Nat.le_of_add_le_add_right (Nat.le_trans h (bg k b))
def IJ{e a b}(k)(h:uV a b e):uV (k*a) (k*b) e:=by
 cases e
 ·exact congrArg (k*·) h
 ·exact Nat.mul_le_mul_left k h
def EN{A B r e}(h:TF e A B=true):uV (i6 A r) (i6 B r) e:=by
 have h:=Bool.and_eq_true_iff.1 h;cases e
 ·exact bJ (qL _ _ _ h.1) (qL _ _ _ h.2)
 ·exact qL _ _ _ h.1
def EO{a b}:∀e,a=b->uV a b e|true,h=>bx h|false,h=>h
def OC{e x y ρ r}(h:(e||(2).ble r)=true)(k:EM (i6 x (1::ρ)) (i6 y (1::ρ)) r):uV (i6 (zlo x y r) (1::ρ)) (i6 (zup x y r) (1::ρ)) e:=by
 obtain _|_|_|r:=r
 ·cases e;exact ak h bP;exact k
 ·cases e
  ·exact ak h bP
  ·show i6 (wU x [1]) (1::ρ)<=_;rw[oO];exact k
 ·exact EO e k
 ·exact EO e k.symm
def OD{e ρ g}(k):∀N A B,zck e k N A B=true->(uV (i6 A (1::ρ)) (i6 B (1::ρ)) e->g)->zst ρ g k N:=k.rec (λN A B h i=>i (EN h)) λk j N A B h i=>by
 show jB _ _ (N.mod 16);change jB _ _ (N.mod 16)=true at h;generalize N.mod 16=z at h⊢;cases z with
 |zero=>exact i (EN h)
 |succ r=>
  have h:=Bool.and_eq_true_iff.1 h;intro q;rw[uk,uk]at q;refine j _ _ _ h.2 λj=>i ?_;rw[oO,oO,mG,mG]at j;exact II j (IJ _ (OC h.1 q))
def yu(ρ:List Nat)(N:Nat):Prop:=zst ρ (EM (IG ρ 40 (N.div 256)) (IG ρ 40 (p9 40 (N.div 256))) (N.mod 16)) 12 (p9 40 (p9 40 (N.div 256)))
def zX(N:Nat):Bool:=(1).ble ((N.div 16).mod 16)&&zck ((N.mod 16).ble 1) 12 (p9 40 (p9 40 (N.div 256))) (uT ((N.div 16).mod 16) (zlg (uU 40 (N.div 256)) (N.mod 16))) (uT ((N.div 16).mod 16) (uU 40 (p9 40 (N.div 256))))
def IK{k x y r ρ}(h:1<=k)(j:uV (i6 (uT k (zlg x r)) (1::ρ)) (i6 (uT k y) (1::ρ)) (r.ble 1)):EM (i6 x (1::ρ)) (i6 y (1::ρ)) r:=by
 rw[mG,mG]at j;obtain _|_|r:=r
 ·exact Nat.le_of_mul_le_mul_left j h
 ·change uV (_*i6 (wU _ [1]) _) _ _ at j;rw[oO]at j;exact Nat.le_of_mul_le_mul_left j h
 ·exact Nat.eq_of_mul_eq_mul_left h j
def uW{ρ}(N)(h:zX N=true):yu ρ N:=by
 have h:=Bool.and_eq_true_iff.1 h;unfold yu;rw[uk,uk];exact OD 12 _ _ _ h.2 λj=>IK (aR h.1) j
def gY{p:Prop}(h:1<=0):p:=(Nat.not_succ_le_zero 0 h).elim
variable{a b c d e f g h i j:Nat}
def et(N)(h:zX N=true):yu [a] N:=uW N h
def ln2(N)(h:zX N=true):yu [a,b] N:=uW N h
def bX(N)(h:zX N=true):yu [a,b,c] N:=uW N h
def gf(N)(h:zX N=true):yu [a,b,c,d] N:=uW N h
def lS(N)(h:zX N=true):yu [a,b,c,d,e] N:=uW N h
def G0(N)(h:zX N=true):yu [a,b,c,d,e,f] N:=uW N h
def G1(N)(h:zX N=true):yu [a,b,c,d,e,f,g] N:=uW N h
def es{n k:Nat}{P:Prop}(h:n<k+1)(f:n<k->P)(g:n=k->P):P:=(Nat.lt_or_eq_of_le (Nat.le_of_lt_succ h)).elim f g
def IL{n:Nat}(h:n<2):n=0\/n=1:=es h (λh=>es h (λh=>ak h (Nat.not_lt_zero _)) .inl) .inr
def p_{n:Nat}(h:n<3):n=0\/n=1\/n=2:=es h (λh=>(IL h).imp id .inl) λe=>.inr (.inr e)
def en4{n:Nat}(h:n<4):n=0\/n=1\/n=2\/n=3:=es h (λh=>(p_ h).imp id (.imp id .inl)) λe=>.inr (.inr (.inr e))
def ep{k:Nat}{P:Nat->Prop}(f:∀n,n<k->P (n+1)):∀{n},0<n->n<k+1->P n:=λ{n}=>n.casesOn (λh=>ak h (Nat.lt_irrefl _)) λn _ h=>f n (Nat.lt_of_succ_lt_succ h)
def em3{n:Nat}(h:0<n)(k:n<3):n=1\/n=2:=ep (P:=λn=>n=1\/n=2) (λn h=>(IL h).imp (congrArg Nat.succ) (congrArg Nat.succ)) h k
def em4{n:Nat}(h:0<n)(k:n<4):n=1\/n=2\/n=3:=ep (P:=λn=>n=1\/n=2\/n=3) (λn h=>(p_ h).imp (congrArg Nat.succ) (.imp (congrArg Nat.succ) (congrArg Nat.succ))) h k
def TH{n:Nat}(h:0<n)(k:n<5):n=1\/n=2\/n=3\/n=4:=es k (λk=>(em4 h k).imp id (.imp id .inl)) λe=>.inr (.inr (.inr e))
def sb{a b c:Nat}(h:b<=c)(k:c<=b+a):a-(b+a-c)=c-b:=by
 obtain⟨j,rfl⟩:=Nat.exists_eq_add_of_le h;rw[Nat.add_sub_add_left,Nat.add_sub_cancel_left];exact Nat.sub_sub_self (Nat.le_of_add_le_add_left k)
def sc{a b c k:Nat}(h:a-b<=k+1)(p:0<c):a-(b+c)<=k:=Nat.sub_add_eq a b c▸Nat.sub_le_of_le_add (Nat.le_trans h (bg p k))
def sd{a p t:Nat}(h:p+a<=t):t-p=a+(t-(p+a)):=Nat.sub_eq_of_eq_add ((Nat.add_comm ..).trans (ag (bS ..) (bE h))).symm
def ic(n:Nat):((n+1:Nat):Int)-1=n:=Int.add_sub_cancel (n:Int) 1
def ig{a b c:Nat}(h:a<=b):a+c+(b-a)=b+c:=(Nat.add_right_comm ..).trans (congrArg (·+c) (bE h))
def ib{x:Int}{n:Nat}(h:x+((n+1:Nat):Int)<=600000):x+1+n<=600000:=(Int.add_assoc x 1 n).trans (congrArg (x+·) (Int.add_comm ..))▸h
def ia{x:Int}{n m:Nat}(l:n<=m)(h:x+(m:Int)<=600000):x+n<=600000:=Int.le_trans (Int.add_le_add_left (Int.ofNat_le.2 l) x) h
def nI{w k:Nat}(h:w<k):¬((w:Int)=(k:Int)):=λe=>cm h (Int.ofNat.inj e)
def iN{w k:Nat}(h:k<=w):¬((w:Int)<(k:Int)):=λe=>Nat.not_lt.2 h (Int.ofNat_lt.1 e)
def tr3{p q i:Nat}(k2:p<q+i)(k3:q+i<=p+3)(hi:i<3):q=p\/q=p+1\/q=p+2\/q=p+3\/q+1=p:=by
 obtain⟨j,e⟩:=Nat.exists_eq_add_of_lt k2;have hj:j<3:=Nat.le_of_add_le_add_left (e▸k3:p+j+1<=p+3);obtain rfl|rfl|rfl:=p_ hi
 ·obtain rfl|rfl|rfl:=p_ hj
  ·exact .inr (.inl e)
  ·exact .inr (.inr (.inl e))
  ·exact .inr (.inr (.inr (.inl e)))
 ·obtain rfl|rfl|rfl:=p_ hj
  ·exact .inl (bz e)
  ·exact .inr (.inl (bz e))
  ·exact .inr (.inr (.inl (bz e)))
 ·obtain rfl|rfl|rfl:=p_ hj
  ·exact .inr (.inr (.inr (.inr (bz e))))
  ·exact .inl (bz (bz e))
  ·exact .inr (.inl (bz (bz e)))
def nb0{x y:Int}{n a:Nat}(h1:0<=x)(IM:x<2147483647)(h2:0<=y)(IP:y+((n+1:Nat):Int)<=600000)(k:2147483647+a*600001<=2^60):Int.natAbs (x+a*(y+1))<2^60:=by
 obtain⟨X,rfl⟩:=Int.eq_ofNat_of_zero_le h1;obtain⟨Y,rfl⟩:=Int.eq_ofNat_of_zero_le h2;exact Nat.lt_of_lt_of_le (Nat.add_lt_add_of_lt_of_le (Int.ofNat_lt.1 IM) (Nat.mul_le_mul_left a (Nat.succ_le_succ (Nat.le_trans (ar Y (n+1)) (Int.ofNat_le.1 IP))))) k
def nb{x y:Int}{n a c:Nat}(h1:0<=x)(IM:x<2147483647)(h2:0<=y)(IP:y+((n+1:Nat):Int)<=600000)(k:2147483647+a*600001+c<=2^60):Int.natAbs (x+a*(y+1)+c)<2^60:=by
 obtain⟨X,rfl⟩:=Int.eq_ofNat_of_zero_le h1;obtain⟨Y,rfl⟩:=Int.eq_ofNat_of_zero_le h2;exact Nat.lt_of_lt_of_le (Nat.add_lt_add_right (Nat.add_lt_add_of_lt_of_le (Int.ofNat_lt.1 IM) (Nat.mul_le_mul_left a (Nat.succ_le_succ (Nat.le_trans (ar Y (n+1)) (Int.ofNat_le.1 IP))))) c) k
def IQ{x x' y y':Nat}(w:x+y<=x'+y')(b:y'<=y):x<=x':=Nat.le_of_add_le_add_right (Nat.le_trans w (bg b _))
def Sm{x x' y y':Nat}(w:x+y<=x'+y')(b:x'<=x):y<=y':=Nat.le_of_add_le_add_left (Nat.le_trans w (aS b _))
def Sn{x x' y0 y1 y2 m:Nat}(a:x'<=x)(b1:y1<=y0)(b2:y2<=y1)(e:x'+y2=m)(w:x+y0<=m):y1=y0/\y2=y1:=have h:=Sm (e.symm▸w:x+y0<=x'+y2) a;⟨bJ b1 (Nat.le_trans h b2),bJ b2 (Nat.le_trans b1 h)⟩
def zim{a b s:Nat}(h:a<=b):(if b<=s then 1 else 0:Nat)<=if a<=s then 1 else 0:=by
 by_cases k:b<=s
 ·rw[aO k,aO (Nat.le_trans h k)];exact Nat.le_refl _
 ·rw[bc k];exact Nat.zero_le _
end
end Mine
namespace Mine
open List PySem
abbrev ae:=@wpAny_bind
abbrev ao:=@wpAny_pure
abbrev aU:=@wpAny_holding
abbrev a4:=@wpAny_standAt
def cu{l:List α}(h:l[i]?=some a):i<l.length:=(List.getElem?_eq_some_iff.1 h).1
def aA(h:(a&&b)=true):a=true/\b=true:=Bool.and_eq_true_iff.1 h
def aj(h:some a=some b):a=b:=Option.some.inj h
def dv{l:List α}(h:i<l.length):l[i]?=some l[i]:=List.getElem?_eq_getElem h
def c9{b:List α}:(a++b).length=a.length+b.length:=length_append
def d5(h:a∈[b]):a=b:=mem_singleton.1 h
def lB(h:a=b):a∈[b]:=mem_singleton.2 h
def cX{l:List α}:(l.map f).length=l.length:=length_map _
def eE:a∈a::l:=mem_cons_self
def fg(h:a∈l):a∈b::l:=mem_cons_of_mem _ h
def d6:a∉[]:=not_mem_nil
def gh{l:List α}{i:Nat}(h:l[i]?=some a):a∈l:=mem_of_getElem? h
def fD{b:List α}:(a++b).map f=a.map f++b.map f:=map_append
def hW{l:List α}{i:Nat}:(l.map f)[i]?=l[i]?.map f:=List.getElem?_map
def iZ{r:List α}(h:a∈l++r):a∈l\/a∈r:=mem_append.1 h
def rL{r:List α}(h:a∈l\/a∈r):a∈l++r:=mem_append.2 h
def hH(h:a∈b::l):a=b\/a∈l:=mem_cons.1 h
def lT(h:Nat.beq a b=true):a=b:=Nat.eq_of_beq_eq_true h
def pF(h:(a||b)=true):a=true\/b=true:=Bool.or_eq_true_iff.1 h
def i4{l:List α}(h:b∈l.map f):∃a,a∈l/\f a=b:=mem_map.1 h
def bt{c:Nat}(h:a<=b)(k:b<=c):a<=c:=Nat.le_trans h k
def di{a:Nat}:a<=a:=Nat.le_refl a
def aZ:0<=a:=Nat.zero_le a
def iC{c:Nat}(h:a<=b)(k:b<c):a<c:=Nat.lt_of_le_of_lt h k
def i7{c:Nat}(h:a<b)(k:b<=c):a<c:=Nat.lt_of_lt_of_le h k
def mH(h:(a::l).Nodup):a∉l/\l.Nodup:=nodup_cons.1 h
@[elab_as_elim] def rX{c:Sort _}{a b:c}{p:c->Prop}(h:a=b)(k:p b):p a:=h.symm▸k
inductive MV where
 |none
 |bool (b:Bool)
 |int (i:Int)
 |str (s:Str)
 |tup (l:List MV)
 |obj (c:Nat) (l:List MV)
 |lst (i:Nat)
 |iD (i:Nat)
 |aQ (l:List MV)
 |dZ (ks:List Str) (vs:List MV)
 |fn (f:Nat)
inductive MC where
 |list (l:List MV)
 |dict (l:List (Str×MV))
 |jq (l:List MV)
noncomputable def MC.ctorIdx(x:MC):Nat:=x.casesOn (λ_=>0) (λ_=>1) λ_=>2
abbrev MH:=List MC
abbrev Loc:=List (Option MV)
abbrev M(a:Type):=MH->(a->MH->Prop)->Prop
def ret(a:α):M α:=λJ Q=>Q a J
def fc:M α:=λZ Z=>False
def dj(m:M α)(f:α->M β):M β:=λJ Q=>m J λa J=>f a J Q
@[irreducible] def ask{α}(x:Option α):M α:=λJ Q=>∃a,x=some a/\Q a J
@[irreducible] def ke{α}(c:Prop)(m:M α):M α:=λJ Q=>c/\m J Q
def hY(v:MV)(k:Int->M α):M α:=match v with| .int i=>k i|_=>fc
def t9(v:MV)(k:Str->M α):M α:=match v with| .str i=>k i|_=>fc
def G2(v:MV)(k:Bool->M α):M α:=match v with| .bool i=>k i|_=>fc
def wW(v:MV)(k:Nat->M α):M α:=match v with| .lst i=>k i|_=>fc
def a0(l:List MV)(k:M α):M α:=match l with|[]=>k|_=>fc
def a1(l:List MV)(k:MV->M α):M α:=match l with|v::r=>a0 r (k v)|_=>fc
def a2(l:List MV)(k:MV->MV->M α):M α:=match l with|v::r=>a1 r (k v)|_=>fc
noncomputable def cL:Nat:=1000000
noncomputable def G3:List Nat->List Nat->Bool
 |[],b=>(match b with|[]=>true|_=>false)
 |x::a,b=>match b with|y::b=>(match Nat.beq x y with|true=>G3 a b|false=>false)|[]=>false
def seq(a b:Str):Bool:=G3 a.cps.toList b.cps.toList
noncomputable def Cd(c:MC):Option (List MV):=match c with| .list l=>some l|_=>none
@[irreducible] def dh(a:Nat):M (List MV):=λJ Q=>∃l,J[a]?=some (.list l)/\Q l J
@[irreducible] def kv(a:Nat):M (List (Str×MV)):=λJ Q=>∃l,J[a]?=some (.dict l)/\Q l J
def wr(a:Nat)(c:MC):M Unit:=λJ Q=>Q () (J.set a c)
@[irreducible] def iu(a:Nat)(l:List MV):M Unit:=ke (l.length<=cL) (wr a (.list l))
@[irreducible] def newList(l:List MV):M MV:=ke (l.length<=cL) λJ Q=>Q (.lst J.length) (J++[.list l])
def newDict:M MV:=λJ Q=>Q (.iD J.length) (J++[.dict []])
def itemsOf(v:MV):M (List MV):=match v with
 | .tup l=>ret l
 | .aQ l=>ret l
 | .lst a=>dh a
 |_=>fc
def EP(v:MV):M (List MV):=match v with
 | .aQ l=>ret l
 | .lst a=>dh a
 |_=>fc
@[irreducible] def idx(n:Nat)(i:Int):M Nat:=λJ Q=>∃k,k<n/\(i=k\/i+n=k)/\Q k J
noncomputable def look:List Str->List α->Str->Option α
 |[],_,_=>none
 |k::ks,vs,s=>match vs with|[]=>none|v::vs=>match seq k s with|true=>some v|false=>look ks vs s
noncomputable def fN:List (Str×α)->Str->Option α
 |[],_=>none
 |k::ks,s=>match seq k.1 s with|true=>some k.2|false=>fN ks s
noncomputable def stored:List (Str×α)->Str->α->List (Str×α)
 |[],k,v=>[(k,v)]
 |e::l,k,v=>match seq e.1 k with|true=>(e.1,v)::l|false=>e::stored l k v
@[irreducible] def f6(o i:MV):M MV:=match o with
 | .dZ ks vs=>t9 i λs=>ask (look ks vs s)
 |o=>hY i λi=>dj (itemsOf o) λl=>dj (idx l.length i) λk=>ask l[k]?
@[irreducible] def gJ(o i v:MV):M Unit:=match o with
 | .lst a=>hY i λi=>dj (dh a) λl=>dj (idx l.length i) λk=>iu a (l.set k v)
 | .iD a=>t9 i λs=>dj (kv a) λl=>ke (l.length<1000) (wr a (.dict (stored l s v)))
 |_=>fc
def cutAt(n:Nat)(dflt:Nat)(v:MV):M Nat:=match v with
 | .none=>ret dflt
 | .int i=>λJ Q=>∃k:Nat,i=k/\Q (min k n) J
 |_=>fc
def cut(l:List α)(lo h:MV):M (List α):=dj (cutAt l.length 0 lo) λa=>dj (cutAt l.length l.length h) λb=>ret ((l.take b).drop a)
@[irreducible] def slice(o lo h:MV):M MV:=match o with
 | .str s=>ke (s.length<=cL) (dj (cut s.cps.toList lo h) λl=>ret (.str ⟨l.toArray⟩))
 | .tup l=>hY lo λi=>(match h with
  | .none=>λJ Q=>∃k:Nat,i=k/\k<=l.length/\l.length<=cL/\Q (.tup (l.drop k)) J
  |_=>fc)
 |o=>dj (itemsOf o) λl=>dj (cut l lo h) newList
@[irreducible] def ER(n:Int):M Nat:=λJ Q=>∃k:Nat,n=k/\Q k J
inductive Bo[Inhabited Unit] where|add|sub|mul|fdiv|mod|pow
noncomputable def Bo.ctorIdx[Inhabited Unit](x:Bo):Nat:=x.casesOn 0 1 2 3 4 5
inductive Bi[Inhabited Unit] where|len|sum|max|abs|int|str|repr|list
noncomputable def Bi.ctorIdx[Inhabited Unit](x:Bi):Nat:=x.casesOn 0 1 2 3 4 5 6 7
inductive Bm[Inhabited Unit] where|append|extend|pop|nj|l7
noncomputable def Bm.ctorIdx[Inhabited Unit](x:Bm):Nat:=x.casesOn 0 1 2 3 4
inductive Ty[Inhabited Unit] where|tuple|int|bool|list|str
noncomputable def Ty.ctorIdx[Inhabited Unit](x:Ty):Nat:=x.casesOn 0 1 2 3 4
inductive Ik[Inhabited Unit] where|plain|range|enum|zip
noncomputable def Ik.ctorIdx[Inhabited Unit](x:Ik):Nat:=x.casesOn 0 1 2 3
inductive Tg where
 |one (i:Nat)
 |many (is:List Nat)
def binop(o:Bo)(a b:MV):M MV:=match o with
 | .add=>(match a with
  | .int a=>hY b λb=>ret (.int (a+b))
  | .str a=>t9 b λb=>ke (a.length+b.length<=cL) (ret (.str (a++b)))
  | .lst a=>dj (dh a) λl=>dj (EP b) λm=>newList (l++m)
  |_=>fc)
 | .sub=>hY a λa=>hY b λb=>ret (.int (a-b))
 | .mul=>(match a with
  | .int a=>hY b λb=>ke (a.natAbs<2 ^ 60) (ret (.int (a*b)))
  | .lst a=>hY b λn=>dj (dh a) λl=>a1 l λx=>dj (ER n) λk=>newList (List.replicate k x)
  |_=>fc)
 | .fdiv=>hY a λa=>hY b λb=>ke (b≠0/\b.natAbs<1000000) (ret (.int (a.fdiv b)))
 | .mod=>hY a λa=>hY b λb=>ke (b≠0) (ret (.int (a.fmod b)))
 | .pow=>hY a λa=>hY b λb=>ke (0<=b/\b<=1000/\a.natAbs<2 ^ 60) (ret (.int (a ^ b.toNat)))
noncomputable def dM(f:α->Option β):List α->Option (List β)
 |[]=>some []
 |a::l=>match f a with
  |some b=>(match dM f l with|some r=>some (b::r)|none=>none)
  |none=>none
noncomputable def bV(J:MH):Nat->MV->Option PyData
 |0,_=>none
 |n+1,v=>match v with
  | .none=>some .none
  | .bool b=>some (.bool b)
  | .int i=>some (.int i)
  | .str s=>if PyData.strOk s then some (.str s)else none
  | .tup l=>(dM (bV J n) l).map .tuple
  | .aQ l=>(dM (bV J n) l).map .list
  | .lst a=>(match J[a]? with
   |some c=>(match Cd c with|some l=>(dM (bV J n) l).map .list|none=>none)
   |none=>none)
  |_=>none
def dat(v:MV):M PyData:=λJ Q=>∃d,bV J 8 v=some d/\Q d J
def G4(v:MV):Prop:=match v with| .lst _| .aQ _=>True|_=>False
@[irreducible] def wX(g:Bool)(a b:MV):M Bool:=λJ Q=>
 (g=true/\G4 a/\G4 b/\itemsOf a J λl Z=>itemsOf b J λm Z=>l.length≠m.length/\Q false J)\/
 dat a J λx Z=>dat b J λy Z=>Q (PyData.eqv x y) J
def yv(g:Bool)(a b:MV):M Bool:=match a with
 | .int x=>(match b with| .int y=>ret (x==y)|_=>wX g a b)
 | .str x=>(match b with| .str y=>ret (seq x y)|_=>wX g a b)
 | .bool x=>(match b with| .bool y=>ret (x==y)|_=>wX g a b)
 |_=>wX g a b
noncomputable def isNone(v:MV):Bool:=match v with| .none=>true|_=>false
noncomputable def strsOf:List MV->Option (List Str)
 |[]=>some []
 |v::l=>match v with
  | .str s=>(match strsOf l with|some r=>some (s::r)|none=>none)
  |_=>none
noncomputable def kx(x:PyData)(l:List PyData):Bool:=l.any λy=>PyData.eqv y x
noncomputable def c7(k:Str):List Str->Bool
 |[]=>false
 |s::l=>match seq s k with|true=>true|false=>c7 k l
@[irreducible] def contains(x s:MV):M Bool:=match s with
 | .dZ a vs=>t9 x λk=>ret (look a vs k).isSome
 |s=>dj (itemsOf s) λl J Q=>(∃k a,x= .str k/\strsOf l=some a/\Q (c7 k a) J)\/dat x J λx Z=>∃l',dM (bV J 8) l=some l'/\Q (kx x l') J
def So(m:M Bool):M Bool:=dj m λb=>ret !b
def compare(o:CmpOp)(a b:MV):M Bool:=match o with
 | .Lt=>hY a λa=>hY b λb=>ret (decide (a<b))
 | .LtE=>hY a λa=>hY b λb=>ret (decide (a<=b))
 | .Gt=>hY a λa=>hY b λb=>ret (decide (b<a))
 | .GtE=>hY a λa=>hY b λb=>ret (decide (b<=a))
 | .Eq=>yv true a b
 | .NotEq=>So (yv false a b)
 | .Is=>(match b with| .none=>ret (isNone a)|_=>fc)
 | .IsNot=>(match b with| .none=>ret !(isNone a)|_=>fc)
 | .In=>contains a b
 | .NotIn=>So (contains a b)
def reprOf(v:MV):Option Str:=match v with
 | .none=>some (Str.ofString "None")
 | .bool b=>some (Str.ofString (if b then "True" else "False"))
 | .int i=>if i.natAbs<10 ^ 100 then some (Str.ofString (toString i))else none
 | .str s=>if(reprText s).length<=cL then some (reprText s)else none
 |_=>none
noncomputable def sumOf:List MV->Option Int
 |[]=>some 0
 |v::r=>match v with
  | .int i=>(match sumOf r with|some j=>some (i+j)|none=>none)
  |_=>none
noncomputable def zY(v:MV)(t:Ty):Option Bool:=match v with
 | .tup _=>(match t with| .tuple=>some true|_=>none)
 | .fn f=>(match t with| .tuple=>if 8<=f/\f<=19 then some false else none|_=>none)
 | .none=>(match t with| .tuple=>some false| .bool=>some false|_=>none)
 | .int _=>(match t with| .int=>some true| .bool=>some false|_=>none)
 | .str _=>(match t with| .str=>some true| .bool=>some false|_=>none)
 | .bool _=>(match t with| .bool=>some true|_=>none)
 |_=>none
def builtin(b:Bi)(A:List MV):M MV:=match b with
 | .len=>a1 A λv=>(match v with
  | .str s=>ke (s.length<=cL) (ret (.int s.length))
  |v=>dj (itemsOf v) λl=>ret (.int l.length))
 | .sum=>a1 A λv=>wW v λa=>dj (dh a) λl=>dj (ask (sumOf l)) λi=>ret (.int i)
 | .max=>a2 A λa b=>hY a λa=>hY b λb=>ret (.int (if b>a then b else a))
 | .abs=>a1 A λa=>hY a λa=>ret (.int a.natAbs)
 | .int=>a1 A λa=>G2 a λb=>ret (.int (match b with|true=>1|false=>0))
 | .str=>a1 A λa=>hY a λi=>ke (i.natAbs<10 ^ 100) (ret (.str (Str.ofString (toString i))))
 | .repr=>a1 A λv=>dj (ask (reprOf v)) λs=>ret (.str s)
 | .list=>a1 A λv=>dj (itemsOf v) newList
@[irreducible] def eG(m:Bm)(o:MV)(A:List MV):M MV:=match m with
 | .append=>wW o λa=>a1 A λv=>dj (dh a) λl=>dj (iu a (l++[v])) λZ=>ret .none
 | .extend=>wW o λa=>a1 A λv=>dj (match v with| .lst b=>ke (a≠b) (dh b)| .aQ l=>ret l|_=>fc) λm=>dj (dh a) λl=>dj (iu a (l++m)) λZ=>ret .none
 | .pop=>wW o λa=>a0 A (dj (dh a) λl=>dj (ask l.getLast?) λv=>dj (iu a l.dropLast) λZ=>ret v)
 | .nj=>a1 A λk=>t9 k λs=>(match o with
  | .iD a=>dj (kv a) λl=>ret ((fN l s).getD .none)
  |_=>fc)
 | .l7=>a2 A λk d=>t9 k λs=>(match o with
  | .dZ ks vs=>ret ((look ks vs s).getD d)
  |_=>fc)
@[irreducible] def kY(m:Bm)(o:MV):M Unit:=match m with
 | .nj=>(match o with| .iD a=>dj (kv a) λZ=>ret ()|_=>fc)
 | .l7=>(match o with| .dZ _ _=>ret ()|_=>fc)
 |_=>wW o λa=>dj (dh a) λZ=>ret ()
inductive Src where
 |vals (l:List MV)
 |live (a n:Nat)
inductive Wk where
 |plain (s:Src)
 |enum (s:Src)
 |zip (s t:Src)
noncomputable def Src.len(s:Src):Nat:=match s with| .vals l=>l.length| .live _ n=>n
def TJ(a n:Nat):M (List MV):=dj (dh a) λl=>ke (l.length=n) (ret l)
def Src.item(s:Src)(i:Nat):M MV:=match s with
 | .vals l=>ask l[i]?
 | .live a n=>dj (TJ a n) λl=>ask l[i]?
def Src.lC(s:Src):M Unit:=match s with
 | .vals _=>ret ()
 | .live a n=>dj (TJ a n) λZ=>ret ()
def Wk.len(w:Wk):Nat:=match w with| .plain s=>s.len| .enum s=>s.len| .zip s _=>s.len
def Wk.item(w:Wk)(i:Nat):M MV:=match w with
 | .plain s=>s.item i
 | .enum s=>dj (s.item i) λv=>ret (.tup [.int i,v])
 | .zip s t=>dj (s.item i) λx=>dj (t.item i) λy=>ret (.tup [x,y])
def Wk.lC(w:Wk):M Unit:=match w with
 | .plain s=>s.lC
 | .enum s=>s.lC
 | .zip s t=>dj s.lC λZ=>t.lC
noncomputable def signs(s:Str):List MV:=s.cps.toList.map λc=>.str ⟨#[c]⟩
def srcOf(v:MV):M Src:=match v with
 | .tup l=>ret (.vals l)
 | .aQ l=>ret (.vals l)
 | .lst a=>dj (dh a) λl=>ret (.live a l.length)
 |_=>fc
def xi(v:MV):M Src:=match v with
 | .aQ l=>ret (.vals l)
 | .lst a=>dj (dh a) λl=>ret (.live a l.length)
 |_=>fc
noncomputable def fE(n:Nat):List MV:=(List.range n).map λ(i:Nat)=>MV.int i
def uX(k:Ik)(a:List MV):M Wk:=match k with
 | .plain=>a1 a λv=>dj (srcOf v) λs=>ret (.plain s)
 | .range=>a1 a λv=>hY v λn=>ke (-cL<=n/\n<=cL) (ret (.plain (.vals (fE n.toNat))))
 | .enum=>a1 a λv=>(match v with
  | .str s=>ke (s.length<=20) (ret (.enum (.vals (signs s))))
  |v=>dj (xi v) λs=>ret (.enum s))
 | .zip=>a2 a λv w=>dj (xi v) λs=>dj (xi w) λt=>ke (s.len=t.len) (ret (.zip s t))
noncomputable def ik(af:Loc):List Nat->List MV->Option Loc
 |[],vs=>(match vs with|[]=>some af|_=>none)
 |i::is,vs=>match vs with
  |v::vs=>ik (af.set i (some v)) is vs
  |_=>none
def jP(af:Loc)(v:MV)(t:Tg):M Loc:=match t with
 | .one i=>ret (af.set i (some v))
 | .many is=>dj (itemsOf v) λl=>ask (ik af is l)
inductive Fl where
 |next
 |cont
 |ret (v:MV)
abbrev PE:=Loc->MH->(MV->MH->Prop)->Prop
abbrev PL:=Loc->MH->(List MV->MH->Prop)->Prop
abbrev PT:=Loc->MH->(Bool->MH->Prop)->Prop
abbrev yw:=MV->PT
abbrev PS:=Loc->MH->(Fl->Loc->MH->Prop)->Prop
abbrev au:=Nat->List MV->MH->(MV->MH->Prop)->Prop
def pG(b:Bool)(P Q:Prop):Prop:=match b with|true=>P|false=>Q
mutual
noncomputable def pure:MV->Prop
 | .none| .bool _| .int _| .str _| .fn _=>True
 | .lst _| .iD _=>False
 | .tup l| .obj _ l| .aQ l| .dZ _ l=>f9 l
noncomputable def f9:List MV->Prop
 |[]=>True
 |v::l=>pure v/\f9 l
end
noncomputable def nD(J:MH)(v:MV):MV:=match v with
 | .lst a=>(match J[a]? with
  |some (.list l)=>.aQ l
  |some (.jq l)=>.aQ l
  |_=>v)
 |_=>v
noncomputable def nk(J:MH)(v:MV):MH:=match v with
 | .lst a=>(match J[a]? with
  |some (.list l)=>J.set a (.jq l)
  |_=>J)
 |_=>J
@[irreducible] def call(C:au)(f:Nat)(l:List MV)(J:MH)(Q:MV->MH->Prop):Prop:=C f l J Q\/C f (l.map (nD J)) (l.foldl nk J) Q
noncomputable def oP(k:Nat):List Nat->Nat->Option Nat
 |[],_=>none
 |x::l,i=>match Nat.beq x k with|true=>some i|false=>oP k l (i+1)
noncomputable def mI:List (List Nat):=[[0,1,2,3,4],[5,6,7,8,9],[10,11,12,13,14,15,16,17,18],[19,20,21,22]]
noncomputable def gi:List α->Nat->Option α
 |[],_=>none
 |x::l,n=>match n with|0=>some x|n+1=>gi l n
def fieldOf(c k:Nat):Option Nat:=match gi mI c with|some l=>oP k l 0|none=>none
noncomputable def jW:List (List (Nat×Nat)):=[[(0,2)],[(1,4)],[(2,6),(3,7)],[(4,27),(5,28),(6,29),(7,30),(8,31),(9,32),(10,33),(11,34)]]
noncomputable def um(m:Nat):List (Nat×Nat)->Option Nat
 |[]=>none
 |x::l=>match Nat.beq x.1 m with|true=>some x.2|false=>um m l
def lE(c m:Nat):Option Nat:=match gi jW c with|some l=>um m l|none=>none
inductive Mt where
 |name (i:Nat)
 |sub (o i:PE)
section
variable{α β:Type}
abbrev QV:=MV->MH->Prop
abbrev QK:=Fl->Loc->MH->Prop
def uY(v:MV)(Q:List MV->MH->Prop)(l:List MV)(J:MH):Prop:=Q (v::l) J
def kPL(e:PL)(af:Loc)(Q:List MV->MH->Prop)(v:MV)(J:MH):Prop:=e af J (uY v Q)
noncomputable def eL:List PE->PL
 |[],_,J,Q=>Q [] J
 |e::r,af,J,Q=>e af J (kPL (eL r) af Q)
def eC(v:MV):PE:=λZ J Q=>Q v J
abbrev aB(n:Int):=eC (.int n)
def eV(i:Nat):PE:=λaf J Q=>match gi af i with
 |some o=>(match o with|some v=>Q v J|none=>False)
 |none=>False
def aaf(Q:QV)(l:List MV)(J:MH):Prop:=Q (.tup l) J
def cj(es:List PE):PE:=λaf J Q=>eL es af J (aaf Q)
def tj(Q:QV)(l:List MV)(J:MH):Prop:=newList l J Q
def bY(es:List PE):PE:=λaf J Q=>eL es af J (tj Q)
def dk:PE:=λZ Z Z=>False
def Ce:PE:=λZ J Q=>newDict J Q
def Cf(k:Nat)(Q:QV)(v:MV)(J:MH):Prop:=match v with
 | .obj c l=>(match fieldOf c k with
  |some i=>(match gi l i with|some x=>Q x J|none=>False)
  |none=>False)
 |_=>False
def ah(e:PE)(k:Nat):PE:=λaf J Q=>e af J (Cf k Q)
def TK(f:MV->MV->M α)(x:MV)(Q:α->MH->Prop)(y:MV)(J:MH):Prop:=f x y J Q
def kM1(f:MV->MV->M α)(b:PE)(af:Loc)(Q:α->MH->Prop)(x:MV)(J:MH):Prop:=b af J (TK f x Q)
def eM(f:MV->MV->M MV)(a b:PE):PE:=λaf J Q=>a af J (kM1 f b af Q)
def a7(e i:PE):PE:=eM f6 e i
def aX(o:Bo)(a b:PE):PE:=eM (binop o) a b
def aag(o:MV)(h:PE)(af:Loc)(Q:QV)(a:MV)(J:MH):Prop:=h af J (TK (slice o) a Q)
def TL(lo h:PE)(af:Loc)(Q:QV)(o:MV)(J:MH):Prop:=lo af J (aag o h af Q)
def nE(e lo h:PE):PE:=λaf J Q=>e af J (TL lo h af Q)
def IS(f:MV->M α)(Q:α->MH->Prop)(x:MV)(J:MH):Prop:=f x J Q
def l8(a:PE):PE:=λaf J Q=>a af J (IS (λx=>hY x λi=>ret (.int (-i))) Q)
def zZ(a:PE):PE:=λaf J Q=>a af J (IS (λx=>G2 x λb=>ret (.bool !b)) Q)
def aah(P R:MH->Prop)(t:Bool)(J:MH):Prop:=pG t (P J) (R J)
def Sp(v:MV)(P R:MH->Prop)(J:MH):Prop:=G2 v ret J (aah P R)
def aai(b:PE)(af:Loc)(Q:QV)(v:MV)(J:MH):Prop:=Sp v (λJ=>b af J Q) (Q v) J
def jw(a b:PE):PE:=λaf J Q=>a af J (aai b af Q)
def kOr(b:PE)(af:Loc)(Q:QV)(v:MV)(J:MH):Prop:=Sp v (Q v) (λJ=>b af J Q) J
def OE(a b:PE):PE:=λaf J Q=>a af J (kOr b af Q)
def c1(o:CmpOp)(b:PE):yw:=λv af J Q=>b af J (TK (compare o) v Q)
def aaj(r:yw)(x:MV)(af:Loc)(Q:Bool->MH->Prop)(t:Bool)(J:MH):Prop:=pG t (r x af J Q) (Q false J)
def kC2(o:CmpOp)(r:yw)(v:MV)(af:Loc)(Q:Bool->MH->Prop)(x:MV)(J:MH):Prop:=compare o v x J (aaj r x af Q)
def c2(o:CmpOp)(b:PE)(r:yw):yw:=λv af J Q=>b af J (kC2 o r v af Q)
def IT(Q:QV)(t:Bool)(J:MH):Prop:=Q (.bool t) J
def Sr(c:yw)(af:Loc)(Q:Bool->MH->Prop)(v:MV)(J:MH):Prop:=c v af J Q
def fv(a:PE)(c:yw):PE:=λaf J Q=>a af J (Sr c af (IT Q))
def uZ(a b:Loc->MH->β->Prop)(af:Loc)(Q:β)(t:Bool)(J:MH):Prop:=pG t (a af J Q) (b af J Q)
def jr(c:PT)(a b:PE):PE:=λaf J Q=>c af J (uZ a b af Q)
section
variable(C:au)
def Cg(f:Nat)(Q:QV)(l:List MV)(J:MH):Prop:=call C f l J Q
def aq(f:Nat)(es:List PE):PE:=λaf J Q=>eL es af J (Cg C f Q)
def ES(es:List PE)(af:Loc)(Q:QV)(v:MV)(J:MH):Prop:=match v with
 | .fn f=>eL es af J (Cg C f Q)
 |_=>False
def oQ(e:PE)(es:List PE):PE:=λaf J Q=>e af J (ES C es af Q)
def ET(f:Nat)(v:MV)(Q:QV)(l:List MV)(J:MH):Prop:=call C f (v::l) J Q
def Ci(m:Nat)(es:List PE)(af:Loc)(Q:QV)(v:MV)(J:MH):Prop:=match v with
 | .obj c _=>(match lE c m with
  |some f=>eL es af J (ET C f v Q)
  |none=>False)
 |_=>False
def dS(m:Nat)(o:PE)(es:List PE):PE:=λaf J Q=>o af J (Ci C m es af Q)
end
def aak(m:Bm)(v:MV)(Q:QV)(l:List MV)(J:MH):Prop:=eG m v l J Q
def Ss(m:Bm)(v:MV)(es:List PE)(af:Loc)(Q:QV)(_:Unit)(J:MH):Prop:=eL es af J (aak m v Q)
def kBm(m:Bm)(es:List PE)(af:Loc)(Q:QV)(v:MV)(J:MH):Prop:=kY m v J (Ss m v es af Q)
def d4(m:Bm)(o:PE)(es:List PE):PE:=λaf J Q=>o af J (kBm m es af Q)
def kBi(b:Bi)(Q:QV)(l:List MV)(J:MH):Prop:=builtin b l J Q
def df(b:Bi)(es:List PE):PE:=λaf J Q=>eL es af J (kBi b Q)
def IU(t:Ty)(Q:QV)(v:MV)(J:MH):Prop:=match zY v t with|some b=>Q (.bool b) J|none=>False
def nq(e:PE)(t:Ty):PE:=λaf J Q=>e af J (IU t Q)
def aal(Q:Bool->MH->Prop)(b:Bool)(J:MH):Prop:=Q (!b) J
def lF(a:PT):PT:=λaf J Q=>a af J (aal Q)
def tF:PT:=λZ J Q=>Q false J
def tT:PT:=λZ J Q=>Q true J
def gZ(a b:PT):PT:=λaf J Q=>a af J (uZ b tF af Q)
def l9(a b:PT):PT:=λaf J Q=>a af J (uZ tT b af Q)
def tIf(c a b:PT):PT:=λaf J Q=>c af J (uZ a b af Q)
def aJ(a:PE)(c:yw):PT:=λaf J Q=>a af J (Sr c af Q)
def tE(e:PE):PT:=λaf J Q=>e af J (IS (λv=>G2 v ret) Q)
noncomputable def Cj:List PT->PT
 |[]=>tT
 |t::r=>gZ t (Cj r)
noncomputable def jC(w:Wk)(t:Tg)(o:PT)(e:PE)(af:Loc):Nat->Nat->MH->(List MV->MH->Prop)->Prop
 |0,_,J,Q=>w.lC J λZ J=>Q [] J
 |k+1,i,J,Q=>w.item i J λx J=>jP af x t J λa J=>o a J λb J=>pG b
   (e a J λv J=>jC w t o e af k (i+1) J (uY v Q)) (jC w t o e af k (i+1) J Q)
@[irreducible] def mJ(w:Wk)(t:Tg)(o:PT)(e:PE)(af:Loc)(n i:Nat)(J:MH)(Q:List MV->MH->Prop):Prop:=jC w t o e af n i J Q
def OF(e:PE)(t:Tg)(i:List PT)(af:Loc)(Q:QV)(w:Wk)(J:MH):Prop:=mJ w t (Cj i) e af w.len 0 J (tj Q)
def TM(e:PE)(t:Tg)(k:Ik)(i:List PT)(af:Loc)(Q:QV)(l:List MV)(J:MH):Prop:=uX k l J (OF e t i af Q)
def fO(e:PE)(t:Tg)(k:Ik)(src:List PE)(i:List PT):PE:=λaf J Q=>eL src af J (TM e t k i af Q)
def kE(af:Loc)(K:QK)(_:MV)(J:MH):Prop:=K .next af J
def sE(e:PE):PS:=λaf J K=>e af J (kE af K)
def kA(i:Nat)(af:Loc)(K:QK)(v:MV)(J:MH):Prop:=K .next (af.set i (some v)) J
def sA(i:Nat)(e:PE):PS:=λaf J K=>e af J (kA i af K)
def kU(af:Loc)(K:QK)(_:Unit)(J:MH):Prop:=K .next af J
def aam(o v:MV)(Q:Unit->MH->Prop)(i:MV)(J:MH):Prop:=gJ o i v J Q
def IV(i:PE)(v:MV)(af:Loc)(Q:Unit->MH->Prop)(o:MV)(J:MH):Prop:=i af J (aam o v Q)
def kAs(r:Loc->MH->(Loc->MH->Prop)->Prop)(af:Loc)(K:Loc->MH->Prop)(_:Unit)(J:MH):Prop:=r af J K
noncomputable def nF:List Mt->List MV->Loc->MH->(Loc->MH->Prop)->Prop
 |[],vs,af,J,K=>(match vs with|[]=>K af J|_=>False)
 |t::ts,vs,af,J,K=>match vs with
  |v::vs=>(match t with
   | .name i=>nF ts vs (af.set i (some v)) J K
   | .sub o i=>o af J (IV i v af (kAs (nF ts vs) af K)))
  |_=>False
def yx(t:List Mt)(af:Loc)(K:QK)(l:List MV)(J:MH):Prop:=pG (Nat.beq t.length l.length) (nF t l af J (K .next)) False
def aan(t:List Mt)(af:Loc)(K:QK)(v:MV)(J:MH):Prop:=itemsOf v J (yx t af K)
def sU(t:List Mt)(e:PE):PS:=λaf J K=>e af J (aan t af K)
def kSt(o i:PE)(af:Loc)(K:QK)(v:MV)(J:MH):Prop:=o af J (IV i v af (kU af K))
def gK(o i e:PE):PS:=λaf J K=>e af J (kSt o i af K)
def kR(af:Loc)(K:QK)(v:MV)(J:MH):Prop:=K (.ret v) af J
def sR(e:PE):PS:=λaf J K=>e af J (kR af K)
def sI(c:PT)(a b:PS):PS:=λaf J K=>c af J (uZ a b af K)
def TN(f:Fl)(P:MV->Prop)(Q:Prop):Prop:=match f with| .ret v=>P v|_=>Q
def OG(f:Fl)(P:Prop)(Q:Fl->Prop):Prop:=match f with| .next=>P|f=>Q f
def kFor(K:QK)(P:Loc->MH->Prop)(f:Fl)(af:Loc)(J:MH):Prop:=TN f (λv=>K (.ret v) af J) (P af J)
noncomputable def forR(w:Wk)(t:Tg)(b:PS):Nat->Nat->PS
 |0,_,af,J,K=>w.lC J λZ J=>K .next af J
 |k+1,i,af,J,K=>w.item i J λx J=>jP af x t J λaf J=>b af J (kFor K λaf J=>forR w t b k (i+1) af J K)
@[irreducible] def kp(w:Wk)(t:Tg)(b:PS)(n i:Nat):PS:=forR w t b n i
def kF2(t:Tg)(b:PS)(af:Loc)(K:QK)(w:Wk)(J:MH):Prop:=kp w t b w.len 0 af J K
def kF1(t:Tg)(k:Ik)(b:PS)(af:Loc)(K:QK)(l:List MV)(J:MH):Prop:=uX k l J (kF2 t b af K)
def sF(t:Tg)(k:Ik)(src:List PE)(b:PS):PS:=λaf J K=>eL src af J (kF1 t k b af K)
noncomputable def Ck(c:PT)(b:PS):Nat->PS
 |0,_,_,_=>False
 |k+1,af,J,K=>c af J (uZ (λaf J K=>b af J (kFor K λaf J=>Ck c b k af J K)) (λaf J K=>K .next af J) af K)
@[irreducible] def TP(c:PT)(b:PS)(n:Nat):PS:=Ck c b n
@[irreducible] def sW(c:PT)(b:PS):PS:=λaf J K=>∃n,TP c b n af J K
def rM:PS:=λaf J K=>K .cont af J
def gL:PS:=λZ Z Z=>False
def sN:PS:=λaf J K=>K .next af J
def kS(r:PS)(K:QK)(f:Fl)(af:Loc)(J:MH):Prop:=OG f (r af J K) λf=>K f af J
def sS(s r:PS):PS:=λaf J K=>s af J (kS r K)
end
inductive Body where
 |fn (b:au->PS)
 |cls (c:Nat) (u5:au->List PE)
structure Fn where
 params:Nat
 gk:List MV
 aa:Nat
 body:Body
noncomputable def frame(f:Fn)(a:Loc):Option Loc:=
 let n:=f.params-a.length
 if a.length<=f.params/\n<=f.gk.length then
  some (a++(f.gk.drop (f.gk.length-n)).map some++List.replicate (f.aa-f.params) none)
 else none
mutual
inductive Fz(J:MH)(n:Nat):MV->MV->Prop
 |pure{v}:pure v->Fz J n v v
 |old{j}:j<n->Fz J n (.lst j) (.lst j)
 |lst{j l l'}:n<=j->J[j]?=some (.list l)->kZ J n l l'->Fz J n (.lst j) (.aQ l')
 |jq{j l l'}:n<=j->J[j]?=some (.jq l)->kZ J n l l'->Fz J n (.lst j) (.aQ l')
 |obj{c l l'}:kZ J n l l'->Fz J n (.obj c l) (.obj c l')
 |tup{l l'}:kZ J n l l'->Fz J n (.tup l) (.tup l')
inductive kZ(J:MH)(n:Nat):List MV->List MV->Prop
 |nil:kZ J n [] []
 |cons{v V l l'}:Fz J n v V->kZ J n l l'->kZ J n (v::l) (V::l')
end
inductive Cm(J:MH)(n:Nat):MC->MC->MC->Prop
 |keep{c}:Cm J n c c c
 |app{p l l'}:kZ J n l l'->Cm J n (.list p) (.list (p++l)) (.list (p++l'))
 |all{c l l'}:kZ J n l l'->Cm J n c (.list l) (.list l')
 |dict{c l}:f9 (l.map (·.2))->Cm J n c (.dict l) (.dict l)
noncomputable def EU(J:MH)(n:Nat):MH->MH->MH->Prop
 |[],_,m'=>m'=[]
 |c0::r0,m1,m'=>match m1 with
  |c1::r1=>(match m' with|c'::r'=>Cm J n c0 c1 c'/\EU J n r0 r1 r'|[]=>False)
  |[]=>False
def rN(J:MH)(Q:QV)(r:MV)(cx:MH):Prop:=∃v,Fz cx 0 r v/\Q v J
def u6(J:MH)(i:Nat)(Q:QV)(r:MV)(cx:MH):Prop:=∃v c,Fz cx 1 r v/\pure v/\cx[0]?=some (.list c)/\f9 c/\Q v (J.set i (.list c))
def fin(J:MH)(Q:QV)(r:MV)(cx:MH):Prop:=Q r cx\/∃v bH,Fz cx J.length r v/\EU cx J.length J cx bH/\Q v bH
def eN(K:QV)(f:Fl)(_:Loc)(J:MH):Prop:=match f with| .ret v=>K v J| .next=>K .none J| .cont=>False
def gy(C:au)(f:Fn)(a:List MV)(J:MH)(K:MV->MH->Prop):Prop:=match f.body with
 | .fn b=>(match frame f (a.map some)with
  |some af=>b C af J (eN K)
  |none=>False)
 | .cls c u5=>(match frame f (none::a.map some)with
  |some af=>eL (u5 C) af J λl J=>K (.obj c l) J
  |none=>False)
noncomputable def xj(i:Nat)(v:MV):MV:=match v with| .lst _=>.lst i|v=>v
def u7(v:MV):Prop:=v= .lst 0\/pure v
@[irreducible] def nG(C:au)(f:Fn)(a:List MV)(J:MH)(Q:MV->MH->Prop):Prop:=
 gy C f a J (fin J Q)\/
 (f9 a/\gy C f a [] (rN J Q))\/
 ∃i c iE,J[i]?=some (.list c)/\f9 c/\a=iE.map (xj i)/\(∀v∈iE,u7 v)/\gy C f iE [.list c] (u6 J i Q)
noncomputable def nu(fns:List Fn):Nat->au
 |0,_,_,_,_=>False
 |d+1,f,args,J,Q=>match gi fns f with
  |some a=>nG (nu fns d) a args J Q
  |none=>False
end Mine
namespace Mine
set_option linter.unusedVariables false
open List PySem
noncomputable abbrev bp(a:Array Nat):Str:=⟨a⟩
def yy:=bp #[112,97,115,115]
def qM:=bp #[99,104,105,108,100]
def qa:=bp #[111,117,116]
def mK:=bp #[100,101,102,105,110,101,100]
def t_:=bp #[110]
def k_t:=bp #[116]
def pH:=bp #[99]
def Cn:=bp #[112]
def Co:=bp #[97]
def k_i:=bp #[105]
def k_f:=bp #[102]
def Cp:=bp #[107]
def G5:=bp #[98]
def Cq:=bp #[115]
def oR:=bp #[108,97,109,98,100,97]
def k6:=bp #[98,108,111,99,107]
def yz:=bp #[100,101,102]
def uo:=bp #[115,100,101,102]
def jD:=bp #[109,101,116,104,111,100]
def k7:=bp #[99,108,97,115,115]
def oT:=bp #[109,111,100,117,108,101]
def oU:=bp #[115,99,108,97,115,115]
def jQ:=bp #[115,101,110,100]
def nH:=bp #[115,117,112,101,114]
def oV:=bp #[122,115,117,112,101,114]
noncomputable def k_:Str:=⟨#[]⟩
def dP:=bp #[103,101,116,108]
def dQ:=bp #[115,101,116,108]
def cv:=bp #[106,117,109,112]
def f_:=bp #[108,101,97,118,101]
def e7:=bp #[112,111,112]
def fA:=bp #[100,117,112]
def cy:=bp #[106,117,109,112,105,102]
def c_:=bp #[112,117,115,104]
def bB:=bp #[106,117,109,112,117,110,108,101,115,115]
def el:=bp #[115,119,97,112]
def cE:=bp #[115,101,108,102]
def yA:=bp #[110,111,116,101]
def iv:=bp #[103,101,116,103]
def yB:=bp #[36,97]
def gM:=bp #[115,101,116,103]
def EV:=bp #[36,98]
def uq:=bp #[98,111,111,109]
def l_:=bp #[114,101,115,99,117,101]
def ma:=bp #[101,110,115,117,114,101]
def kN:=bp #[99,97,117,103,104,116]
def il:=bp #[97,103,97,105,110]
def TQ:=bp #[120]
def ur:=bp #[109,97,105,110]
def fF:=bp #[118,97,108,117,101]
def qb:=bp #[119,97,121]
def nJ:=bp #[119,114,111,110,103]
def lG:=bp #[103,101,116,105]
def fP:=bp #[98,108,111,99,107,103,105,118,101,110]
def lH:=bp #[115,101,116,105]
def lI:=bp #[115,101,116,99]
def nK:=bp #[109,101,116,104,111,100,95,111,102]
def pN:=bp #[99,111,110,115,116,95,111,102]
def EW:=bp #[116,101,120,116]
def EX:=bp #[116,117,99,107]
def EY:=bp #[103,101,116,99]
def xk:=bp #[103,101,116,99,105,110]
def EZ:=bp #[108,105,115,116]
def z1:=bp #[116,97,98,108,101]
def z2:=bp #[114,97,110,103,101]
def z3:=bp #[116,101,120,116,115]
def u9:=bp #[121,105,101,108,100]
def k8:=bp #[106,117,109,112,110,105,108]
def z4:=bp #[97,108,105,97,115]
def z5:=bp #[117,110,100,101,102]
def tm:=bp #[115,112,114,101,97,100,116,111]
def u_:=bp #[114,101,115,112,111,110,100]
def tn:=bp #[108,105,115,116,102,105,116,115]
def xl:=bp #[108,105,115,116,97,116]
def tp:=bp #[108,105,115,116,112,97,114,116]
def tq:=bp #[116,97,98,108,101,104,97,115]
def u':=bp #[116,97,98,108,101,97,116]
def qN:=bp #[116,97,98,108,101,114,101,115,116]
def qO:=bp #[116,97,98,108,101,111,110,108,121]
def mL:=bp #[110,111,109,97,116,99,104]
def OH:=bp #[99,97,108,108]
def IW:=bp #[118]
def E2:=bp #[99,99]
def IX:=bp #[110,97,115]
def IY:=bp #[110,99]
def nL:=bp #[116,104,114,101,97,100,101,100]
def kq:=bp #[107,110,111,119,110,32,98,114,97,110,99,104,101,115]
def jX:=bp #[116,117,114,110,101,100,32,98,114,97,110,99,104,101,115]
def mc:=bp #[115,104,111,114,116,32,106,117,109,112,115]
def nM:=bp #[100,101,97,100,32,114,111,119,115]
def xm:=bp #[112,117,115,104,101,115]
def xo:=bp #[99,111,112,105,101,115]
def z6:=bp #[115,119,97,112,115]
def z7:=bp #[111,112]
def E3:=bp #[108,105,110,101]
def yC:=bp #[115,111,114,116]
def nN:=bp #[102,105,114,115,116]
def uu:=bp #[108,97,115,116]
def md:=bp #[116,97,114,103,101,116]
def nO:=bp #[100,101,112,116,104]
def yD:=bp #[107,105,110,100]
def oW:=bp #[110,97,109,101]
def xp:=bp #[112,97,114,97,109,115]
def vd:=bp #[115,108,111,116,115]
def fG:=bp #[114,111,119,115]
def mM:=bp #[99,97,116,99,104,101,115]
def nP:=bp #[99,104,105,108,100,114,101,110]
def oX:=bp #[115,116,97,114,116,115]
def dJ:=bp #[99,111,100,101]
def ve:=bp #[119,97,105,116,105,110,103]
def qP:=bp #[115,116,101,112]
def TR:=bp #[114,117,110]
def eH:=bp #[112,108,97,99,101]
def dw:=bp #[114,111,119]
def uv:=bp #[116,111,108,100]
def xq:=bp #[108,101,116,116,101,114]
def z8:=bp #[111,117,116,101,114]
def E4:=bp #[97,116]
def z9:=bp #[116,97,107,101,110]
def k_one:=bp #[111,110,101]
def yE:=bp #[109,97,110,121]
def nQ:=bp #[115,116,97,114,116]
def qQ:=bp #[102,111,117,110,100]
def yF:=bp #[116,117,114,110]
def nR:=bp #[109,97,114,107,115]
def xr:=bp #[98,114,97,110,99,104]
def k_behind:=bp #[98,101,104,105,110,100]
def xt:=bp #[98,101,102,111,114,101]
def z_:=bp #[110,97,109,101,115]
def xu:=bp #[115,99,114,105,112,116]
def lU:=bp #[98,111,120]
def Aa:=bp #[102,114,111,110,116]
def yG:=bp #[115,112,111,116]
def E5:=bp #[115,111,109,101]
def OI:=bp #[107,101,101,112]
def k_made:=bp #[109,97,100,101]
def yH:=bp #[100,101,101,112]
def E6:=bp #[111,118,101,114]
def E7:=bp #[103,111,97,108]
def k_state:=bp #[115,116,97,116,101]
def Ab:=bp #[115,116,97,99,107]
def IZ:=bp #[108,97,112]
def I0:=bp #[109,101,116]
def lJ:MV:=(.tup [(.str nK),(.str pN)])
def jE:MV:=(.dZ [c_,EW,e7,fA,⟨#[100,117,112,50]⟩,el,EX,cE,dP,dQ,lG,lH,iv,gM,EY,xk,lI,EZ,⟨#[97,112,112,101,110,100]⟩,⟨#[106,111,105,110,108,105,115,116,115]⟩,⟨#[115,112,114,101,97,100]⟩,z1,z2,⟨#[116,111,116,101,120,116]⟩,z3,jQ,nH,oV,u9,cv,cy,bB,k8,oR,yz,uo,k7,oT,oU,z4,z5,f_,qa,il,kN,⟨#[115,101,116,99,97,117,103,104,116]⟩,mK,tm,u_,⟨#[105,115,108,105,115,116]⟩,⟨#[105,115,116,97,98,108,101]⟩,tn,xl,tp,tq,u',qN,qO,mL,fP] [(.tup [(.int 0),(.int 1)]),(.tup [(.int 0),(.int 1)]),(.tup [(.int 1),(.int 0)]),(.tup [(.int 1),(.int 2)]),(.tup [(.int 2),(.int 4)]),(.tup [(.int 2),(.int 2)]),(.fn 10),(.tup [(.int 0),(.int 1)]),(.tup [(.int 0),(.int 1)]),(.tup [(.int 1),(.int 0)]),(.tup [(.int 0),(.int 1)]),(.tup [(.int 1),(.int 0)]),(.tup [(.int 0),(.int 1)]),(.tup [(.int 1),(.int 0)]),(.tup [(.int 0),(.int 1)]),(.tup [(.int 1),(.int 1)]),(.tup [(.int 1),(.int 0)]),(.fn 11),(.tup [(.int 2),(.int 1)]),(.tup [(.int 2),(.int 1)]),(.tup [(.int 1),(.int 1)]),(.fn 12),(.tup [(.int 2),(.int 1)]),(.tup [(.int 1),(.int 1)]),(.fn 11),(.fn 13),(.fn 14),(.fn 15),(.fn 16),(.tup [(.int 0),(.int 0)]),(.tup [(.int 1),(.int 0)]),(.tup [(.int 1),(.int 0)]),(.tup [(.int 1),(.int 1)]),(.tup [(.int 0),(.int 1)]),(.tup [(.int 0),(.int 1)]),(.tup [(.int 1),(.int 1)]),(.fn 17),(.tup [(.int 0),(.int 1)]),(.tup [(.int 1),(.int 1)]),(.tup [(.int 0),(.int 1)]),(.tup [(.int 0),(.int 1)]),(.tup [(.int 1),(.int 0)]),(.tup [(.int 1),(.int 0)]),(.tup [(.int 1),(.int 0)]),(.tup [(.int 1),(.int 1)]),(.tup [(.int 1),(.int 0)]),(.fn 18),(.fn 19),(.tup [(.int 1),(.int 1)]),(.tup [(.int 1),(.int 1)]),(.tup [(.int 1),(.int 1)]),(.tup [(.int 1),(.int 1)]),(.tup [(.int 1),(.int 1)]),(.tup [(.int 1),(.int 1)]),(.tup [(.int 1),(.int 1)]),(.tup [(.int 1),(.int 1)]),(.tup [(.int 1),(.int 1)]),(.tup [(.int 1),(.int 1)]),(.tup [(.int 1),(.int 0)]),(.tup [(.int 0),(.int 1)])])
noncomputable def qR:MV:=(.tup [(.str ⟨#[98,114,101,97,107]⟩),(.str ⟨#[114,101,116,117,114,110]⟩)])
def me:MV:=(.tup [(.str ⟨#[105,118,97,114]⟩),(.str ⟨#[103,118,97,114]⟩),(.str ⟨#[99,111,110,115,116]⟩),(.str pN),(.str nH),(.str u9),(.str jD),(.str nK)])
def pO:MV:=(.tup [(.str OH),(.str cE),(.str ⟨#[118,97,114]⟩)])
def jY:MV:=(.dZ [c_,EW,EX,dP,dQ,lG,lH,iv,gM,EY,xk,lI,EZ,z1,z2,z3,jQ,nH,oV,u9,cv,cy,bB,k8,oR,yz,uo,k7,oT,oU,z4,z5,qa,mK,tm,u_,tn,xl,tp,tq,u',qN,qO] [(.str IW),(.str k_t),(.str pH),(.str E2),(.str E2),(.str t_),(.str t_),(.str t_),(.str t_),(.str t_),(.str t_),(.str t_),(.str pH),(.str pH),(.str k_f),(.str pH),(.str IX),(.str ⟨#[97,98]⟩),(.str G5),(.str Co),(.str Cn),(.str Cn),(.str Cn),(.str Cn),(.str pH),(.str IY),(.str IY),(.str ⟨#[110,99,102]⟩),(.str IY),(.str pH),(.str ⟨#[110,110]⟩),(.str t_),(.str Cq),(.str ⟨#[115,118]⟩),(.str ⟨#[99,114,99]⟩),(.str t_),(.str ⟨#[99,102]⟩),(.str k_i),(.str E2),(.str IW),(.str IW),(.str Cp),(.str Cp)])
def i8:MV:=(.tup [(.str cv),(.str cy),(.str bB),(.str k8)])
def yI:MV:=(.tup [(.str cv),(.str f_),(.str qa),(.str il),(.str mL)])
def nS:MV:=(.tup [(.str l_),(.str ma)])
def pQ:MV:=(.tup [(.str jD),(.str k6),(.str k7),(.str ⟨#[112,114,111,103,114,97,109]⟩)])
def Ac:MV:=(.tup [(.str c_),(.str cE),(.str dP),(.str lG),(.str iv),(.str fA),(.str fP)])
def xw:MV:=(.tup [(.str dQ),(.str lH),(.str gM),(.str lI)])
def jZ:MV:=(.tup [(.str cy),(.str bB)])
noncomputable def nU:MV:=(.int 24)
def iP:MV:=(.aQ [(.tup [(.str nL),(.fn 41)]),(.tup [(.str kq),(.fn 47)]),(.tup [(.str jX),(.fn 48)]),(.tup [(.str mc),(.fn 49)]),(.tup [(.str nM),(.fn 43)]),(.tup [(.str xm),(.fn 44)]),(.tup [(.str xo),(.fn 45)]),(.tup [(.str z6),(.fn 50)])])
def b0(C:au):PS:=gL
noncomputable def b1(C:au):List PE:=[(eV 1),(eV 2),(eV 3),(eV 4),(eV 5)]
def b2(C:au):PS:=(sR (aq C 1 [(ah (eV 0) 0),(eV 1),(ah (eV 0) 2),(ah (eV 0) 3),(ah (eV 0) 4)]))
noncomputable def b3(C:au):List PE:=[(eV 1),(eV 2),(eV 3),(eV 4),(eV 5)]
def b4(C:au):PS:=(sR (fv (ah (eV 0) 6) (c2 .LtE (eV 1) (c1 .Lt (ah (eV 0) 7)))))
noncomputable def b5(C:au):List PE:=[(eV 1),(eV 2),(eV 3),(eV 4),(eV 5),(eV 6),(eV 7),(eV 8),(eC .none)]
def b6(C:au):PS:=gL
def b7(C:au):PS:=(sR (aq C 5 [(ah (eV 0) 10),(ah (eV 0) 11),(ah (eV 0) 12),(ah (eV 0) 13),(eV 1),(eV 2),(eV 4),(eV 3)]))
def b8(C:au):PS:=(sR (jr (aJ (eV 0) (c1 .Eq (l8 (aB 1)))) (aB 1) (eV 0)))
def b9(C:au):PS:=(sR (jr (aJ (eV 0) (c1 .Eq (eC (.str yy)))) (aB 1) (aB 0)))
def b10(C:au):PS:=(sR (cj [(aX .add (ah (eV 0) 1) (aB 1)),(aX .add (ah (eV 0) 1) (aB 2))]))
def b11(C:au):PS:=(sR (cj [(ah (eV 0) 1),(aB 1)]))
def b12(C:au):PS:=(sR (cj [(aX .mul (aB 2) (ah (eV 0) 1)),(aB 1)]))
def b13(C:au):PS:=(sR (cj [(aX .add (aX .add (aB 1) (aq C 8 [(ah (eV 0) 2)])) (aq C 9 [(a7 (ah (eV 0) 3) (aB 1))])),(aB 1)]))
def b14(C:au):PS:=(sR (cj [(aX .add (aq C 8 [(ah (eV 0) 1)]) (aq C 9 [(ah (eV 0) 2)])),(aB 1)]))
def b15(C:au):PS:=(sR (cj [(aq C 9 [(ah (eV 0) 1)]),(aB 1)]))
def b16(C:au):PS:=(sR (cj [(aq C 8 [(ah (eV 0) 1)]),(aB 1)]))
def b17(C:au):PS:=(sR (cj [(jr (tE (ah (eV 0) 3)) (aB 1) (aB 0)),(aB 1)]))
def b18(C:au):PS:=(sR (cj [(jr (aJ (ah (eV 0) 1) (c1 .In (eC lJ))) (aB 1) (aB 0)),(aB 1)]))
def b19(C:au):PS:=(sR (cj [(aB 1),(aX .add (aX .add (ah (eV 0) 1) (jr (aJ (ah (eV 0) 2) (c1 .Is (eC .none))) (aB 0) (aB 1))) (ah (eV 0) 3))]))
def TS(C:au):PS:=(sR (jr (tE (nq (eV 1) .tuple)) (eV 1) (oQ C (eV 1) [(eV 0)])))
def b20(C:au):PS:=(sS (sA 1 (a7 (eC jE) (ah (eV 0) 0))) (TS C))
def b21(C:au):PS:=(sR (jw (nq (eV 0) .int) (zZ (nq (eV 0) .bool))))
def TU(C:au):PS:=(sR (jw (nq (eV 0) .tuple) (jw (fv (df .len [(eV 0)]) (c1 .Eq (aB 2))) (jw (fv (a7 (eV 0) (aB 0)) (c1 .Eq (eC (.str qM)))) (aq C 21 [(a7 (eV 0) (aB 1))])))))
def b22(C:au):PS:=(sS (sI (l9 (aJ (eV 0) (c1 .Is (eC .none))) (aJ (eV 0) (c1 .Eq (eC (.str yy))))) (sR (eC (.bool true))) sN) (TU C))
def TV(C:au):PS:=(sR (jw (nq (eV 1) .tuple) (jw (fv (df .len [(eV 1)]) (c1 .Eq (aB 2))) (jw (fv (a7 (eV 1) (aB 0)) (c1 .In (eC pO))) (aq C 22 [(a7 (eV 1) (aB 1))])))))
def TX(C:au):PS:=(sS (sI (aJ (ah (eV 0) 0) (c1 .Eq (eC (.str mK)))) (sR (fv (eV 1) (c1 .In (eC me)))) sN) (TV C))
def b23(C:au):PS:=(sS (sI (aJ (ah (eV 0) 0) (c1 .Eq (eC (.str qa)))) (sR (fv (eV 1) (c1 .In (eC qR)))) sN) (TX C))
def TY(C:au):PS:=(sR (jr (aJ (eV 1) (c1 .Eq (eC (.str Cq)))) (aq C 23 [(eV 0),(eV 2)]) (eC (.bool true))))
def TZ(C:au):PS:=(sS (sI (aJ (eV 1) (c1 .Eq (eC (.str G5)))) (sR (aq C 22 [(eV 2)])) sN) (TY C))
def T1(C:au):PS:=(sS (sI (aJ (eV 1) (c1 .Eq (eC (.str Cp)))) (sR dk) sN) (TZ C))
def T3(C:au):PS:=(sS (sI (aJ (eV 1) (c1 .Eq (eC (.str ⟨#[114]⟩)))) (sR (OE (fv (eV 2) (c1 .Is (eC .none))) (fv (eV 2) (c1 .Eq (aB 1))))) sN) (T1 C))
def T4(C:au):PS:=(sS (sI (aJ (eV 1) (c1 .Eq (eC (.str k_f)))) (sR (nq (eV 2) .bool)) sN) (T3 C))
def T5(C:au):PS:=(sS (sI (aJ (eV 1) (c1 .Eq (eC (.str k_i)))) (sR (aq C 21 [(eV 2)])) sN) (T4 C))
def T6(C:au):PS:=(sS (sI (aJ (eV 1) (c1 .Eq (eC (.str Co)))) (sR (jw (aq C 21 [(eV 2)]) (fv (eV 2) (c1 .GtE (l8 (aB 1)))))) sN) (T5 C))
def T7(C:au):PS:=(sS (sI (aJ (eV 1) (c1 .In (cj [(eC (.str pH)),(eC (.str Cn))]))) (sR (jw (aq C 21 [(eV 2)]) (fv (eV 2) (c1 .GtE (aB 0))))) sN) (T6 C))
def b24(C:au):PS:=(sS (sI (aJ (eV 1) (c1 .In (cj [(eC (.str t_)),(eC (.str k_t))]))) (sR (nq (eV 2) .str)) sN) (T7 C))
def T8(C:au):PS:=(sR (jr (tE (nq (eV 1) .tuple)) (cj [(a7 (eV 1) (aB 1)),(eC (.str k6))]) (eC .none)))
def T9(C:au):PS:=(sS (sI (aJ (ah (eV 0) 0) (c1 .Eq (eC (.str jQ)))) (sA 1 (a7 (ah (eV 0) 3) (aB 1))) (sI (aJ (ah (eV 0) 0) (c1 .Eq (eC (.str nH)))) (sA 1 (ah (eV 0) 2)) (sI (aJ (ah (eV 0) 0) (c1 .Eq (eC (.str oV)))) (sA 1 (ah (eV 0) 1)) sN))) (T8 C))
def T_(C:au):PS:=(sS (sA 1 (eC .none)) (T9 C))
def T'(C:au):PS:=(sS (sI (aJ (ah (eV 0) 0) (c1 .Eq (eC (.str oU)))) (sR (cj [(ah (eV 0) 1),(eC (.str k7))])) sN) (T_ C))
def Ua(C:au):PS:=(sS (sI (aJ (ah (eV 0) 0) (c1 .In (cj [(eC (.str k7)),(eC (.str oT))]))) (sR (cj [(ah (eV 0) 2),(eC (.str k7))])) sN) (T' C))
def Ub(C:au):PS:=(sS (sI (aJ (ah (eV 0) 0) (c1 .In (cj [(eC (.str yz)),(eC (.str uo))]))) (sR (cj [(ah (eV 0) 2),(eC (.str jD))])) sN) (Ua C))
def b25(C:au):PS:=(sS (sI (aJ (ah (eV 0) 0) (c1 .Eq (eC (.str oR)))) (sR (cj [(ah (eV 0) 1),(eC (.str k6))])) sN) (Ub C))
noncomputable def b26(C:au):List PE:=[(eV 1),(jr (aJ (ah (eV 1) 10) (c1 .Eq (eC (.str k6)))) dk (bY [(eV 1)])),(aX .mul (bY [(eC .none)]) (df .len [(ah (eV 1) 14)])),(bY [])]
def b27(C:au):PS:=gL
def Uc(C:au):PS:=(sE (d4 .append (ah (eV 0) 22) [(eV 1)]))
def Ud(C:au):PS:=(sI (aJ (eV 4) (c1 .Is (eC .none))) (sS (gK (ah (eV 0) 21) (eV 1) (eV 2)) (Uc C)) (sI (aJ (eV 4) (c1 .NotEq (eV 2))) (sE (dS C 4 (eV 0) [(eV 1),(aX .add (aX .add (aX .add (eC (.str ⟨#[97,32,115,116,97,99,107,32,111,102,32]⟩)) (df .str [(eV 4)])) (eC (.str ⟨#[32,97,110,100,32,111,102,32]⟩))) (df .str [(eV 2)]))])) sN))
def Ue(C:au):PS:=(sS (sA 4 (a7 (ah (eV 0) 21) (eV 1))) (Ud C))
def b28(C:au):PS:=(sS (sI (lF (aJ (aB 0) (c2 .LtE (eV 1) (c1 .Lt (df .len [(ah (ah (eV 0) 19) 14)]))))) (sE (dS C 4 (eV 0) [(eV 3),(eC (.str ⟨#[103,111,101,115,32,111,110,32,98,101,121,111,110,100,32,116,104,101,32,114,111,119,115]⟩))])) sN) (Ue C))
def Ug(C:au):PS:=(sI (lF (tE (aq C 24 [(eV 2),(eV 6),(a7 (eV 4) (eV 5))]))) (sE (dS C 4 (eV 0) [(eV 1),(aX .add (aX .add (ah (eV 2) 0) (eC (.str ⟨#[58,32,111,112,101,114,97,110,100,32]⟩))) (df .str [(eV 5)]))])) sN)
def I1(C:au):PS:=(sI (gZ (aJ (ah (eV 2) 0) (c1 .In (eC i8))) (aJ (ah (eV 2) 1) (c1 .GtE (df .len [(ah (ah (eV 0) 19) 14)])))) (sE (dS C 4 (eV 0) [(eV 1),(eC (.str ⟨#[106,117,109,112,115,32,98,101,121,111,110,100,32,116,104,101,32,114,111,119,115]⟩))])) sN)
def I2(C:au):PS:=(sS (sI (aJ (fO (eV 7) (.one 7) .plain [(nE (eV 4) (df .len [(eV 3)]) (eC .none))] [(aJ (eV 7) (c1 .IsNot (eC .none)))]) (c1 .NotEq (bY []))) (sE (dS C 4 (eV 0) [(eV 1),(aX .add (ah (eV 2) 0) (eC (.str ⟨#[58,32,116,111,111,32,109,97,110,121,32,111,112,101,114,97,110,100,115]⟩)))])) sN) (I1 C))
def Uh(C:au):PS:=(sS (sF (.many [5,6]) .enum [(eV 3)] (Ug C)) (I2 C))
def Ui(C:au):PS:=(sS (sU [.name 3,.name 4] (cj [(d4 .l7 (eC jY) [(ah (eV 2) 0),(eC (.str k_))]),(cj [(ah (eV 2) 1),(ah (eV 2) 2),(ah (eV 2) 3)])])) (Uh C))
def b29(C:au):PS:=(sS (sI (aJ (ah (eV 2) 0) (c1 .NotIn (eC jE))) (sE (dS C 4 (eV 0) [(eV 1),(eC (.str ⟨#[110,111,32,115,117,99,104,32,111,112]⟩))])) sN) (Ui C))
def b30(C:au):PS:=(sI (l9 (aJ (ah (eV 2) 1) (c1 .GtE (df .len [(ah (eV 0) 20)]))) (aJ (ah (eV 2) 2) (c1 .GtE (df .len [(ah (a7 (ah (eV 0) 20) (ah (eV 2) 1)) 13)])))) (sE (dS C 4 (eV 0) [(eV 1),(eC (.str ⟨#[110,111,32,115,117,99,104,32,115,108,111,116]⟩))])) sN)
def Uj(C:au):PS:=(sI (l9 (lF (aJ (aB 0) (c2 .LtE (eV 4) (c1 .Lt (df .len [(ah (ah (eV 0) 19) 16)]))))) (aJ (ah (a7 (ah (ah (eV 0) 19) 16) (eV 4)) 10) (c1 .NotEq (eV 5)))) (sE (dS C 4 (eV 0) [(eV 1),(eC (.str ⟨#[110,111,32,115,117,99,104,32,99,104,105,108,100]⟩))])) sN)
def Uk(C:au):PS:=(sI (aJ (eV 3) (c1 .IsNot (eC .none))) (sS (sU [.name 4,.name 5] (eV 3)) (Uj C)) sN)
def b31(C:au):PS:=(sS (sA 3 (aq C 25 [(eV 2)])) (Uk C))
def Ul(C:au):PS:=(sE (dS C 5 (eV 0) [(ah (eV 6) 8),(aX .add (ah (eV 6) 9) (aB 1)),(eV 1)]))
def Um(C:au):PS:=(sI (tE (dS C 1 (eV 6) [(eV 1)])) (sS (sI (aJ (eV 3) (c1 .Lt (ah (eV 6) 9))) (sE (dS C 4 (eV 0) [(eV 1),(eC (.str ⟨#[116,104,101,32,115,116,97,99,107,32,105,115,32,108,111,119,101,114,32,116,104,97,110,32,116,104,97,116,32,111,102,32,97,32,99,97,116,99,104]⟩))])) sN) (Ul C)) sN)
def I3(C:au):PS:=(sF (.one 6) .plain [(ah (ah (eV 0) 19) 15)] (Um C))
def I4(C:au):PS:=(sS (sI (aJ (ah (eV 2) 0) (c1 .NotIn (eC yI))) (sE (dS C 5 (eV 0) [(aX .add (eV 1) (aB 1)),(aX .add (aX .sub (eV 3) (eV 4)) (eV 5)),(eV 1)])) sN) (I3 C))
def I5(C:au):PS:=(sS (sI (aJ (ah (eV 2) 0) (c1 .In (eC i8))) (sE (dS C 5 (eV 0) [(ah (eV 2) 1),(aX .add (aX .sub (eV 3) (eV 4)) (eV 5)),(eV 1)])) sN) (I4 C))
def Un(C:au):PS:=(sS (sI (aJ (eV 3) (c1 .Lt (eV 4))) (sE (dS C 4 (eV 0) [(eV 1),(eC (.str ⟨#[116,104,101,32,115,116,97,99,107,32,105,115,32,116,111,111,32,108,111,119]⟩))])) sN) (I5 C))
def Uo(C:au):PS:=(sS (sU [.name 4,.name 5] (aq C 20 [(eV 2)])) (Un C))
def b32(C:au):PS:=(sS (sU [.name 2,.name 3] (cj [(a7 (ah (ah (eV 0) 19) 14) (eV 1)),(a7 (ah (eV 0) 21) (eV 1))])) (Uo C))
def Up(C:au):PS:=(sI (l9 (lF (aJ (aB 0) (c2 .LtE (ah (eV 1) 8) (c1 .Lt (eV 2))))) (aJ (ah (eV 1) 9) (c1 .Lt (aB 0)))) gL sN)
def Uq(C:au):PS:=(sS (sI (l9 (aJ (ah (eV 1) 5) (c1 .NotIn (eC nS))) (lF (aJ (aB 0) (c2 .LtE (ah (eV 1) 6) (c2 .Lt (ah (eV 1) 7) (c1 .LtE (eV 2))))))) gL sN) (Up C))
def Ur(C:au):PS:=(sS (sA 2 (df .len [(ah (ah (eV 0) 19) 14)])) (Uq C))
def b33(C:au):PS:=(sF (.one 1) .plain [(ah (ah (eV 0) 19) 15)] (Ur C))
def Us(C:au):PS:=(sE (dS C 8 (eV 0) [(eV 1),(eV 2)]))
def Ut(C:au):PS:=(sS (sI (aJ (ah (eV 2) 0) (c1 .In (cj [(eC (.str dP)),(eC (.str dQ))]))) (sE (dS C 7 (eV 0) [(eV 1),(eV 2)])) sN) (Us C))
def I6(C:au):PS:=(sS (sE (dS C 6 (eV 0) [(eV 1),(eV 2)])) (Ut C))
def Uu(C:au):PS:=(sE (dS C 5 (eV 0) [(eV 3),(aB 0),(eV 3)]))
def Uv(C:au):PS:=(sE (dS C 9 (eV 0) [(d4 .pop (ah (eV 0) 22) [])]))
def Uw(C:au):PS:=(sW (aJ (df .len [(ah (eV 0) 22)]) (c1 .Gt (aB 0))) (Uv C))
def Ux(C:au):PS:=(sS (sF (.one 3) .plain [(ah (ah (eV 0) 19) 17)] (Uu C)) (Uw C))
def Uy(C:au):PS:=(sS (sE (dS C 10 (eV 0) [])) (Ux C))
def Uz(C:au):PS:=(sS (sF (.many [1,2]) .enum [(ah (ah (eV 0) 19) 14)] (I6 C)) (Uy C))
def b34(C:au):PS:=(sS (sI (l9 (aJ (ah (ah (eV 0) 19) 10) (c1 .NotIn (eC pQ))) (aJ (df .len [(ah (ah (eV 0) 19) 17)]) (c1 .Eq (aB 0)))) gL sN) (Uz C))
def UA(C:au):PS:=(sE (aq C 35 [(eV 3),(jr (aJ (ah (eV 3) 10) (c1 .Eq (eC (.str k6)))) (ah (eV 2) 20) (cj []))]))
def UB(C:au):PS:=(sR (ah (eV 2) 21))
def UC(C:au):PS:=(sS (sF (.one 3) .plain [(ah (eV 0) 16)] (UA C)) (UB C))
def UD(C:au):PS:=(sS (sE (dS C 11 (eV 2) [])) (UC C))
def b35(C:au):PS:=(sS (sA 2 (aq C 26 [(eV 0),(eV 1)])) (UD C))
def b36(C:au):PS:=(sR (jw (fv (eV 0) (c1 .IsNot (eC .none))) (fv (ah (eV 0) 0) (c1 .In (eV 1)))))
def b37(C:au):PS:=(sR (jw (fv (eV 0) (c1 .IsNot (eC .none))) (zZ (jw (nq (eV 0) .bool) (zZ (eV 0))))))
def UE(C:au):PS:=(sI (aJ (ah (eV 2) 0) (c1 .In (eC i8))) (gK (eV 1) (ah (eV 2) 1) (eC (.bool true))) sN)
def UG(C:au):PS:=(gK (eV 1) (ah (eV 3) 8) (eC (.bool true)))
def UI(C:au):PS:=(gK (eV 1) (eV 4) (eC (.bool true)))
def UJ(C:au):PS:=(sR (eV 1))
def UK(C:au):PS:=(sS (sF (.one 4) .plain [(ah (eV 0) 17)] (UI C)) (UJ C))
def UL(C:au):PS:=(sS (sF (.one 3) .plain [(ah (eV 0) 15)] (UG C)) (UK C))
def UM(C:au):PS:=(sS (sF (.one 2) .plain [(ah (eV 0) 14)] (UE C)) (UL C))
def b38(C:au):PS:=(sS (sA 1 (aX .mul (bY [(eC (.bool false))]) (aX .add (df .len [(ah (eV 0) 14)]) (aB 1)))) (UM C))
def UN(C:au):PS:=(sI (aJ (eV 4) (c1 .IsNot (eC .none))) (sE (d4 .append (eV 3) [(eV 4)])) sN)
def UO(C:au):PS:=(sS (sE (d4 .append (eV 2) [(df .len [(eV 3)])])) (UN C))
def UP(C:au):PS:=(sI (aJ (eV 7) (c1 .Lt (eV 8))) (sE (d4 .append (eV 5) [(aq C 3 [(ah (eV 6) 5),(eV 7),(eV 8),(a7 (eV 2) (ah (eV 6) 8)),(ah (eV 6) 9)])])) sN)
def UQ(C:au):PS:=(sS (sU [.name 7,.name 8] (cj [(a7 (eV 2) (ah (eV 6) 6)),(a7 (eV 2) (ah (eV 6) 7))])) (UP C))
def UR(C:au):PS:=(sR (dS C 3 (eV 0) [(eV 3),(eV 5),(fO (a7 (eV 2) (eV 9)) (.one 9) .plain [(ah (eV 0) 17)] []),(ah (eV 0) 16)]))
def US(C:au):PS:=(sS (sF (.one 6) .plain [(ah (eV 0) 15)] (UQ C)) (UR C))
def UT(C:au):PS:=(sS (sA 5 (bY [])) (US C))
def UU(C:au):PS:=(sS (sA 3 (fO (jr (aJ (ah (eV 4) 0) (c1 .In (eC i8))) (dS C 0 (eV 4) [(a7 (eV 2) (ah (eV 4) 1))]) (eV 4)) (.one 4) .plain [(eV 3)] [])) (UT C))
def UW(C:au):PS:=(sS (sE (d4 .append (eV 2) [(df .len [(eV 3)])])) (UU C))
def OJ(C:au):PS:=(sS (sF (.one 4) .plain [(eV 1)] (UO C)) (UW C))
def b39(C:au):PS:=(sS (sU [.name 2,.name 3] (cj [(bY []),(bY [])])) (OJ C))
def UX(C:au):PS:=(sA 2 (ah (a7 (ah (eV 0) 14) (eV 2)) 1))
def Cr(C:au):PS:=(sS (sI (aJ (ah (a7 (ah (eV 0) 14) (eV 2)) 0) (c1 .NotEq (eC (.str cv)))) (sR (eV 2)) sN) (UX C))
def I7(C:au):PS:=(sR (eV 1))
def UY(C:au):PS:=(sS (sF (.one 3) .range [(df .len [(ah (eV 0) 14)])] (Cr C)) (I7 C))
def b40(C:au):PS:=(sS (sA 2 (eV 1)) (UY C))
def UZ(C:au):PS:=rM
def U0(C:au):PS:=(sI (gZ (aJ (ah (eV 2) 0) (c1 .Eq (eC (.str cv)))) (aJ (ah (a7 (ah (eV 0) 14) (eV 3)) 0) (c1 .Eq (eC (.str f_))))) (sE (d4 .append (eV 1) [(aq C 1 [(eC (.str f_)),(eC .none),(eC .none),(eC .none),(ah (eV 2) 4)])])) (sE (d4 .append (eV 1) [(dS C 0 (eV 2) [(eV 3)])])))
def U3(C:au):PS:=(sS (sA 3 (aq C 40 [(eV 0),(ah (eV 2) 1)])) (U0 C))
def U4(C:au):PS:=(sS (sI (aJ (ah (eV 2) 0) (c1 .NotIn (eC i8))) (sS (sE (d4 .append (eV 1) [(eV 2)])) (UZ C)) sN) (U3 C))
def U5(C:au):PS:=(sR (aq C 39 [(eV 0),(eV 1)]))
def U6(C:au):PS:=(sS (sF (.one 2) .plain [(ah (eV 0) 14)] (U4 C)) (U5 C))
def b41(C:au):PS:=(sS (sA 1 (bY [])) (U6 C))
def U7(C:au):PS:=(sI (tE (dS C 1 (eV 5) [(eV 3)])) (sE (d4 .append (eV 2) [(ah (eV 5) 8)])) sN)
def I8(C:au):PS:=(sF (.one 5) .plain [(ah (eV 0) 15)] (U7 C))
def I9(C:au):PS:=(sS (sI (aJ (ah (eV 4) 0) (c1 .NotIn (eC yI))) (sE (d4 .append (eV 2) [(aX .add (eV 3) (aB 1))])) sN) (I8 C))
def I_(C:au):PS:=(sS (sI (aJ (ah (eV 4) 0) (c1 .In (eC i8))) (sE (d4 .append (eV 2) [(ah (eV 4) 1)])) sN) (I9 C))
def U8(C:au):PS:=(sS (sA 4 (a7 (ah (eV 0) 14) (eV 3))) (I_ C))
def U9(C:au):PS:=(sS (gK (eV 1) (eV 3) (eC (.bool true))) (U8 C))
def U_(C:au):PS:=(sS (sI (tE (a7 (eV 1) (eV 3))) rM sN) (U9 C))
def U'(C:au):PS:=(sS (sA 3 (d4 .pop (eV 2) [])) (U_ C))
def Va(C:au):PS:=(sR (eV 1))
def OK(C:au):PS:=(sS (sW (aJ (df .len [(eV 2)]) (c1 .Gt (aB 0))) (U' C)) (Va C))
def OL(C:au):PS:=(sS (sA 2 (df .list [(ah (eV 0) 17)])) (OK C))
def b42(C:au):PS:=(sS (sA 1 (aX .mul (bY [(eC (.bool false))]) (df .len [(ah (eV 0) 14)]))) (OL C))
def b43(C:au):PS:=(sR (aq C 39 [(eV 0),(fO (jr (tE (eV 2)) (eV 1) (eC .none)) (.many [1,2]) .zip [(ah (eV 0) 14),(aq C 42 [(eV 0)])] [])]))
def Vb(C:au):PS:=(sI (gZ (tE (aq C 36 [(a7 (eV 1) (eV 3)),(eC Ac)])) (gZ (tE (aq C 36 [(a7 (eV 1) (aX .add (eV 3) (aB 1))),(cj [(eC (.str e7))])])) (lF (tE (a7 (eV 2) (aX .add (eV 3) (aB 1))))))) (sU [.sub (eV 1) (eV 3),.sub (eV 1) (aX .add (eV 3) (aB 1))] (cj [(eC .none),(eC .none)])) sN)
def Vc(C:au):PS:=(sR (aq C 39 [(eV 0),(eV 1)]))
def Ve(C:au):PS:=(sS (sF (.one 3) .range [(aX .sub (df .len [(eV 1)]) (aB 1))] (Vb C)) (Vc C))
def b44(C:au):PS:=(sS (sU [.name 1,.name 2] (cj [(df .list [(ah (eV 0) 14)]),(aq C 38 [(eV 0)])])) (Ve C))
def Vf(C:au):PS:=(sI (gZ (tE (aq C 36 [(a7 (eV 1) (eV 3)),(cj [(eC (.str fA))])])) (gZ (tE (aq C 36 [(a7 (eV 1) (aX .add (eV 3) (aB 1))),(eC xw)])) (tE (aq C 36 [(a7 (eV 1) (aX .add (eV 3) (aB 2))),(cj [(eC (.str e7))])])))) (sI (gZ (lF (tE (a7 (eV 2) (aX .add (eV 3) (aB 1))))) (lF (tE (a7 (eV 2) (aX .add (eV 3) (aB 2)))))) (sU [.sub (eV 1) (eV 3),.sub (eV 1) (aX .add (eV 3) (aB 2))] (cj [(eC .none),(eC .none)])) sN) sN)
def Vg(C:au):PS:=(sR (aq C 39 [(eV 0),(eV 1)]))
def Vh(C:au):PS:=(sS (sF (.one 3) .range [(aX .sub (df .len [(eV 1)]) (aB 2))] (Vf C)) (Vg C))
def b45(C:au):PS:=(sS (sU [.name 1,.name 2] (cj [(df .list [(ah (eV 0) 14)]),(aq C 38 [(eV 0)])])) (Vh C))
def b46(C:au):PS:=(sR (fv (aq C 37 [(eV 1)]) (c1 .Eq (fv (ah (eV 0) 0) (c1 .Eq (eC (.str cy)))))))
def Vi(C:au):PS:=(gK (eV 1) (aX .add (eV 3) (aB 1)) (jr (tE (eV 6)) (aq C 1 [(eC (.str cv)),(ah (eV 5) 1),(eC .none),(eC .none),(ah (eV 5) 4)]) (eC .none)))
def Vj(C:au):PS:=(sS (gK (eV 1) (eV 3) (eC .none)) (Vi C))
def Vk(C:au):PS:=(gK (eV 1) (aX .add (eV 3) (aB 1)) (dS C 0 (eV 5) [(eV 8)]))
def Vm(C:au):PS:=(sS (gK (eV 1) (eV 3) (eC .none)) (Vk C))
def Vn(C:au):PS:=(sS (sA 8 (jr (tE (aq C 46 [(eV 7),(ah (eV 4) 1)])) (ah (eV 7) 1) (aX .add (ah (eV 5) 1) (aB 1)))) (Vm C))
def Vo(C:au):PS:=(sI (aJ (ah (eV 5) 0) (c1 .In (eC jZ))) (sS (sA 6 (aq C 46 [(eV 5),(ah (eV 4) 1)])) (Vj C)) (sI (gZ (aJ (ah (eV 5) 0) (c1 .Eq (eC (.str cv)))) (aJ (ah (a7 (ah (eV 0) 14) (ah (eV 5) 1)) 0) (c1 .In (eC jZ)))) (sS (sA 7 (a7 (ah (eV 0) 14) (ah (eV 5) 1))) (Vn C)) sN))
def Vp(C:au):PS:=(sS (sI (l9 (lF (tE (aq C 36 [(eV 4),(cj [(eC (.str c_))])]))) (l9 (aJ (eV 5) (c1 .Is (eC .none))) (tE (a7 (eV 2) (aX .add (eV 3) (aB 1)))))) rM sN) (Vo C))
def Vq(C:au):PS:=(sS (sU [.name 4,.name 5] (cj [(a7 (eV 1) (eV 3)),(a7 (eV 1) (aX .add (eV 3) (aB 1)))])) (Vp C))
def Vr(C:au):PS:=(sR (aq C 39 [(eV 0),(eV 1)]))
def OM(C:au):PS:=(sS (sF (.one 3) .range [(aX .sub (df .len [(eV 1)]) (aB 1))] (Vq C)) (Vr C))
def b47(C:au):PS:=(sS (sU [.name 1,.name 2] (cj [(df .list [(ah (eV 0) 14)]),(aq C 38 [(eV 0)])])) (OM C))
def Vs(C:au):PS:=(sU [.sub (eV 1) (eV 3),.sub (eV 1) (aX .add (eV 3) (aB 1))] (cj [(aq C 1 [(eV 6),(ah (eV 5) 1),(eC .none),(eC .none),(ah (eV 4) 4)]),(eC .none)]))
def Vt(C:au):PS:=(sI (gZ (tE (aq C 36 [(eV 4),(eC jZ)])) (gZ (tE (aq C 36 [(eV 5),(cj [(eC (.str cv))])])) (gZ (aJ (ah (eV 4) 1) (c1 .Eq (aX .add (eV 3) (aB 2)))) (lF (tE (a7 (eV 2) (aX .add (eV 3) (aB 1)))))))) (sS (sA 6 (jr (aJ (ah (eV 4) 0) (c1 .Eq (eC (.str cy)))) (eC (.str bB)) (eC (.str cy)))) (Vs C)) sN)
def Vu(C:au):PS:=(sS (sU [.name 4,.name 5] (cj [(a7 (eV 1) (eV 3)),(a7 (eV 1) (aX .add (eV 3) (aB 1)))])) (Vt C))
def Vv(C:au):PS:=(sR (aq C 39 [(eV 0),(eV 1)]))
def Vw(C:au):PS:=(sS (sF (.one 3) .range [(aX .sub (df .len [(eV 1)]) (aB 1))] (Vu C)) (Vv C))
def b48(C:au):PS:=(sS (sU [.name 1,.name 2] (cj [(df .list [(ah (eV 0) 14)]),(aq C 38 [(eV 0)])])) (Vw C))
def Vy(C:au):PS:=(sI (gZ (aJ (ah (eV 3) 0) (c1 .In (eC i8))) (aJ (ah (eV 3) 1) (c1 .Eq (aX .add (eV 2) (aB 1))))) (sE (d4 .append (eV 1) [(jr (aJ (ah (eV 3) 0) (c1 .In (eC jZ))) (aq C 1 [(eC (.str e7)),(eC .none),(eC .none),(eC .none),(ah (eV 3) 4)]) (eC .none))])) (sE (d4 .append (eV 1) [(eV 3)])))
def Vz(C:au):PS:=(sR (aq C 39 [(eV 0),(eV 1)]))
def VA(C:au):PS:=(sS (sF (.many [2,3]) .enum [(ah (eV 0) 14)] (Vy C)) (Vz C))
def b49(C:au):PS:=(sS (sA 1 (bY [])) (VA C))
def VB(C:au):PS:=(sI (tE (aq C 36 [(a7 (eV 1) (eV 3)),(cj [(eC (.str el))])])) (sU [.sub (eV 1) (eV 3),.sub (eV 1) (aX .add (eV 3) (aB 1))] (cj [(eC .none),(eC .none)])) (sI (tE (aq C 36 [(a7 (eV 1) (eV 3)),(cj [(eC (.str fA))])])) (gK (eV 1) (aX .add (eV 3) (aB 1)) (eC .none)) sN))
def VC(C:au):PS:=(sS (sI (l9 (lF (tE (aq C 36 [(a7 (eV 1) (aX .add (eV 3) (aB 1))),(cj [(eC (.str el))])]))) (tE (a7 (eV 2) (aX .add (eV 3) (aB 1))))) rM sN) (VB C))
def VD(C:au):PS:=(sR (aq C 39 [(eV 0),(eV 1)]))
def VE(C:au):PS:=(sS (sF (.one 3) .range [(aX .sub (df .len [(eV 1)]) (aB 1))] (VC C)) (VD C))
def b50(C:au):PS:=(sS (sU [.name 1,.name 2] (cj [(df .list [(ah (eV 0) 14)]),(aq C 38 [(eV 0)])])) (VE C))
def b51(C:au):PS:=(sR (fO (cj [(ah (eV 1) 0),(ah (eV 1) 1),(ah (eV 1) 2),(ah (eV 1) 3)]) (.one 1) .plain [(ah (eV 0) 14)] []))
def VF(C:au):PS:=(sA 0 (oQ C (eV 4) [(eV 0)]))
def VG(C:au):PS:=(sI (aJ (aq C 51 [(eV 0)]) (c1 .Eq (eV 2))) (sR (eV 0)) sN)
def VH(C:au):PS:=(sS (sF (.many [3,4]) .plain [(eC iP)] (VF C)) (VG C))
def VI(C:au):PS:=(sS (sA 2 (aq C 51 [(eV 0)])) (VH C))
def VJ(C:au):PS:=(sR (eV 0))
def b52(C:au):PS:=(sS (sF (.one 1) .range [(eC nU)] (VI C)) (VJ C))
def VK(C:au):PS:=(sR (dS C 3 (eV 1) [(ah (eV 1) 14),(ah (eV 1) 15),(ah (eV 1) 17),(fO (aq C 53 [(eV 2)]) (.one 2) .plain [(ah (eV 1) 16)] [])]))
def b53(C:au):PS:=(sS (sA 1 (aq C 52 [(eV 0)])) (VK C))
def Cu(C:au):PS:=(sI (aJ (eV 1) (c1 .Eq (eV 0))) (sR (eV 2)) sN)
def I'(C:au):PS:=(sR (eC .none))
def b54(C:au):PS:=(sS (sF (.many [1,2]) .plain [(eC iP)] (Cu C)) (I' C))
def VL(C:au):PS:=(sI (aJ (eV 3) (c1 .IsNot (eC .none))) (sA 0 (oQ C (eV 3) [(eV 0)])) sN)
def VM(C:au):PS:=(sS (sA 3 (aq C 54 [(eV 2)])) (VL C))
def VN(C:au):PS:=(sR (dS C 3 (eV 0) [(ah (eV 0) 14),(ah (eV 0) 15),(ah (eV 0) 17),(fO (aq C 55 [(eV 4),(eV 1)]) (.one 4) .plain [(ah (eV 0) 16)] [])]))
def b55(C:au):PS:=(sS (sF (.one 2) .plain [(eV 1)] (VM C)) (VN C))
def Cv(C:au):PS:=(sR (bY [(aX .mod (df .max [(aB 0),(aX .sub (eV 2) (aX .pow (aB 10) (aB 18)))]) (aX .pow (aB 10) (aB 90))),(aX .mod (eV 2) (aB 2147483629)),(aB 0),(OE (fv (eV 1) (c1 .GtE (df .len [(eV 0)]))) (fv (df .abs [(eV 2)]) (c1 .Lt (aB 10))))]))
def b56(C:au):PS:=(sS (sA 2 (jr (aJ (eV 1) (c1 .Lt (df .len [(eV 0)]))) (a7 (eV 0) (eV 1)) (aX .add (aX .add (aX .mul (aB 71717171) (eV 1)) (aB 33023)) (aX .mod (df .sum [(nE (eV 0) (eC .none) (aB 1))]) (aB 1000003))))) (Cv C))
def VO(C:au):PS:=(sR (eV 2))
def VP(C:au):PS:=(sS (gK (eV 0) (aB 0) (aX .fdiv (a7 (eV 0) (aB 0)) (eV 1))) (VO C))
def VQ(C:au):PS:=(sR (aX .mod (aX .fdiv (eV 3) (aB 16)) (eV 1)))
def VR(C:au):PS:=(sS (sA 3 (aX .mod (aX .pow (aX .add (eV 3) (aX .mul (aB 93001) (a7 (eV 0) (aB 2)))) (aB 3)) (aB 2147483587))) (VQ C))
def VS(C:au):PS:=(sS (sA 3 (aX .mod (aX .pow (aX .add (aX .add (a7 (eV 0) (aB 1)) (aX .mul (aB 40169) (a7 (eV 0) (aB 2)))) (aB 7)) (aB 5)) (aB 2147483647))) (VR C))
def VT(C:au):PS:=(sS (gK (eV 0) (aB 2) (aX .add (a7 (eV 0) (aB 2)) (aB 1))) (VS C))
def b57(C:au):PS:=(sS (sI (aJ (a7 (eV 0) (aB 0)) (c1 .Gt (aB 0))) (sS (sA 2 (aX .mod (a7 (eV 0) (aB 0)) (eV 1))) (VP C)) sN) (VT C))
def ON(C:au):PS:=(sR (bY [(eV 0),(eV 1),(eV 2),(eV 3)]))
def b59(C:au):PS:=(sR (a7 (bY [(eC .none),(eC (.bool true)),(eC (.bool false)),(aB 0),(aB 5),(eC (.str Cq))]) (aq C 57 [(eV 0),(aB 6)])))
def b60(C:au):PS:=(sR (bY [(aq C 58 [(eC (.str cE))]),(aq C 58 [(eC (.str dP)),(aB 0),(aq C 57 [(eV 0),(aB 2)])]),(aq C 58 [(eC (.str jQ)),(eC (.str yA)),(aB 1),(cj [(eC (.str cE)),(eC .none)])]),(aq C 58 [(eC (.str e7))])]))
def VU(C:au):PS:=(sE (d4 .extend (eV 1) [(bY [(aq C 58 [(eC (.str cv)),(aX .add (eV 2) (aB 5))]),(aq C 58 [(eC (.str c_)),(eC (.bool false))])])]))
def VW(C:au):PS:=(sS (sE (d4 .extend (eV 1) [(bY [(aq C 58 [(eC (.str dP)),(aB 0),(aq C 57 [(eV 0),(aB 2)])]),(aq C 58 [(eC (.str cy)),(aX .add (eV 2) (aB 4))]),(aq C 58 [(eC (.str c_)),(eC (.bool true))])])])) (VU C))
def b61(C:au):PS:=(sS (sA 2 (df .len [(eV 1)])) (VW C))
def VX(C:au):PS:=(sE (d4 .extend (eV 1) [(bY [(a7 (eV 4) (aq C 57 [(eV 0),(aB 4)])),(aq C 58 [(eC (.str e7))])])]))
def VY(C:au):PS:=(sE (d4 .extend (eV 1) [(bY [(aq C 58 [(eC (.str c_)),(aq C 59 [(eV 0)])]),(aq C 58 [(eC (.str fA))]),(eV 5),(aq C 58 [(eC (.str e7))])])]))
def VZ(C:au):PS:=(sE (d4 .extend (eV 1) [(aX .add (aX .add (bY [(aq C 58 [(eC (.str dP)),(aB 0),(aB 0)]),(aq C 58 [(eC (.str dP)),(aB 0),(aB 1)])]) (eV 6)) (bY [(aq C 58 [(eC (.str dQ)),(aB 0),(aB 1)]),(aq C 58 [(eC (.str dQ)),(aB 0),(aB 0)])]))]))
def V0(C:au):PS:=(sE (d4 .append (eV 1) [(aq C 58 [(eC (.str dQ)),(aB 0),(eV 3)])]))
def V4(C:au):PS:=(sI (aJ (eV 2) (c1 .Eq (aB 8))) (sS (sE (aq C 61 [(eV 0),(eV 1)])) (V0 C)) sN)
def V5(C:au):PS:=(sS (sI (aJ (eV 2) (c1 .Eq (aB 7))) (sE (d4 .extend (eV 1) [(bY [(aq C 58 [(eC (.str cv)),(aX .add (df .len [(eV 1)]) (aB 3))]),(aq C 58 [(eC (.str c_)),(aB 9)]),(aq C 58 [(eC (.str e7))])])])) sN) (V4 C))
def V6(C:au):PS:=(sS (sI (aJ (eV 2) (c1 .Eq (aB 6))) (sE (d4 .append (eV 1) [(aq C 58 [(eC (.str cv)),(aX .add (df .len [(eV 1)]) (aB 1))])])) sN) (V5 C))
def V7(C:au):PS:=(sS (sI (aJ (eV 2) (c1 .Eq (aB 5))) (sE (d4 .extend (eV 1) [(bY [(aq C 58 [(eC (.str dP)),(aB 0),(eV 3)]),(aq C 58 [(eC (.str fA))]),(aq C 58 [(eC (.str el))]),(aq C 58 [(eC (.str gM)),(eC (.str yB))]),(aq C 58 [(eC (.str e7))])])])) sN) (V6 C))
def V8(C:au):PS:=(sS (sI (aJ (eV 2) (c1 .Eq (aB 4))) (sS (sA 6 (a7 (bY [(bY [(aq C 58 [(eC (.str el))]),(aq C 58 [(eC (.str el))])]),(bY [(aq C 58 [(eC (.str el))])])]) (aq C 57 [(eV 0),(aB 2)]))) (VZ C)) sN) (V7 C))
def OO(C:au):PS:=(sS (sI (aJ (eV 2) (c1 .Eq (aB 3))) (sS (sA 5 (a7 (bY [(aq C 58 [(eC (.str dQ)),(aB 0),(eV 3)]),(aq C 58 [(eC (.str gM)),(eC (.str EV))])]) (aq C 57 [(eV 0),(aB 2)]))) (VY C)) sN) (V8 C))
def OP(C:au):PS:=(sS (sI (aJ (eV 2) (c1 .Eq (aB 2))) (sS (sA 4 (bY [(aq C 58 [(eC (.str c_)),(aq C 59 [(eV 0)])]),(aq C 58 [(eC (.str cE))]),(aq C 58 [(eC (.str dP)),(aB 0),(eV 3)]),(aq C 58 [(eC (.str iv)),(eC (.str yB))])])) (VX C)) sN) (OO C))
def OQ(C:au):PS:=(sS (sI (aJ (eV 2) (c1 .Eq (aB 1))) (sE (d4 .extend (eV 1) [(bY [(aq C 58 [(eC (.str c_)),(aq C 59 [(eV 0)])]),(aq C 58 [(eC (.str dQ)),(aB 0),(eV 3)])])])) sN) (OP C))
def OR(C:au):PS:=(sS (sI (aJ (eV 2) (c1 .Eq (aB 0))) (sE (d4 .extend (eV 1) [(aq C 60 [(eV 0)])])) sN) (OQ C))
def b62(C:au):PS:=(sS (sA 3 (aq C 57 [(eV 0),(aB 2)])) (OR C))
def V9(C:au):PS:=(sR (a7 (eV 1) (l8 (aB 1))))
def Ja(C:au):PS:=(sS (sE (d4 .append (eV 1) [(aq C 58 [(a7 (bY [(eC (.str cy)),(eC (.str bB))]) (aq C 57 [(eV 0),(aB 2)])),(aB 0)])])) (V9 C))
def V_(C:au):PS:=(sS (sI (aJ (eV 2) (c1 .Eq (aB 2))) (sE (aq C 61 [(eV 0),(eV 1)])) sN) (Ja C))
def V'(C:au):PS:=(sS (sI (aJ (eV 2) (c1 .Eq (aB 1))) (sE (d4 .append (eV 1) [(aq C 58 [(eC (.str dP)),(aB 0),(aq C 57 [(eV 0),(aB 2)])])])) sN) (V_ C))
def Wa(C:au):PS:=(sS (sI (aJ (eV 2) (c1 .Eq (aB 0))) (sE (d4 .append (eV 1) [(aq C 58 [(eC (.str c_)),(aq C 59 [(eV 0)])])])) sN) (V' C))
def b63(C:au):PS:=(sS (sA 2 (aq C 57 [(eV 0),(aB 3)])) (Wa C))
def Wb(C:au):PS:=(gK (eV 6) (aB 1) (df .len [(eV 3)]))
def Wc(C:au):PS:=(sS (sI (aJ (eV 4) (c1 .Gt (aB 10))) (sE (aq C 64 [(eV 0),(eV 1),(aX .sub (eV 2) (aB 1))])) sN) (Wb C))
def We(C:au):PS:=(sS (gK (eV 5) (aB 1) (df .len [(eV 3)])) (Wc C))
def Wf(C:au):PS:=(sS (sI (aJ (eV 4) (c1 .Gt (aB 9))) (sE (d4 .append (eV 3) [(eV 6)])) sN) (We C))
def Wg(C:au):PS:=(sS (sA 6 (aq C 58 [(eC (.str cv)),(aB 0)])) (Wf C))
def Wh(C:au):PS:=(sS (sE (aq C 64 [(eV 0),(eV 1),(aX .sub (eV 2) (aB 1))])) (Wg C))
def Wi(C:au):PS:=(gK (eV 6) (aB 1) (df .len [(eV 3)]))
def Wj(C:au):PS:=(sS (sE (aq C 64 [(eV 0),(eV 1),(aX .sub (eV 2) (aB 1))])) (Wi C))
def Wl(C:au):PS:=(sS (gK (eV 5) (aB 1) (df .len [(eV 3)])) (Wj C))
def OS(C:au):PS:=(sS (sE (d4 .append (eV 3) [(eV 6)])) (Wl C))
def OT(C:au):PS:=(gK (eV 5) (aB 1) (df .len [(eV 3)]))
def OU(C:au):PS:=(sS (sE (d4 .append (eV 3) [(aq C 58 [(eC (.str cv)),(eV 8)])])) (OT C))
def OV(C:au):PS:=(sS (sE (aq C 64 [(eV 0),(eV 1),(aX .sub (eV 2) (aB 1))])) (OU C))
def OW(C:au):PS:=(sS (sE (d4 .extend (eV 3) [(bY [(aq C 58 [(eC (.str c_)),(eC .none)]),(aq C 58 [(eC (.str dQ)),(aB 0),(eV 7)])])])) (OV C))
def OX(C:au):PS:=(sS (sU [.name 5,.name 8] (cj [(a7 (eV 3) (l8 (aB 1))),(aX .sub (df .len [(eV 3)]) (aB 2))])) (OW C))
def OY(C:au):PS:=(sS (sE (d4 .extend (eV 3) [(bY [(aq C 58 [(eC (.str c_)),(eC (.bool true))]),(aq C 58 [(eC (.str dQ)),(aB 0),(eV 7)]),(aq C 58 [(eC (.str dP)),(aB 0),(eV 7)]),(aq C 58 [(eC (.str bB)),(aB 0)])])])) (OX C))
def OZ(C:au):PS:=(sI (aJ (eV 4) (c1 .Gt (aB 13))) (sE (aq C 65 [(eV 0),(eV 1),(eV 2),(fv (eV 4) (c1 .Eq (aB 14)))])) sN)
def O0(C:au):PS:=(sS (sI (aJ (eV 4) (c1 .Eq (aB 13))) (sS (sU [.name 7,.sub (eV 1) (aB 2)] (cj [(a7 (eV 1) (aB 2)),(aX .add (a7 (eV 1) (aB 2)) (aB 1))])) (OY C)) sN) (OZ C))
def O1(C:au):PS:=(sS (sI (aJ (eV 4) (c1 .Eq (aB 12))) (sS (sU [.name 5,.name 6] (cj [(aq C 63 [(eV 0),(eV 3)]),(aq C 58 [(eC (.str cv)),(aB 0)])])) (OS C)) sN) (O0 C))
def O2(C:au):PS:=(sS (sI (aJ (eV 4) (c1 .In (bY [(aB 9),(aB 10),(aB 11)]))) (sS (sA 5 (aq C 63 [(eV 0),(eV 3)])) (Wh C)) sN) (O1 C))
def lK(C:au):PS:=(sS (sI (aJ (eV 4) (c1 .Lt (aB 9))) (sE (aq C 62 [(eV 0),(eV 3),(eV 4)])) sN) (O2 C))
def b64(C:au):PS:=(sS (sU [.name 3,.name 4] (cj [(a7 (eV 1) (aB 0)),(aq C 57 [(eV 0),(jr (aJ (eV 2) (c1 .Gt (aB 0))) (aB 16) (aB 9))])])) (lK C))
def Wm(C:au):PS:=(gK (eV 7) (aB 1) (df .len [(eV 4)]))
def Wn(C:au):PS:=(sS (sI (tE (eV 3)) (sE (d4 .extend (eV 4) [(bY [(aq C 58 [(eC (.str kN))]),(aq C 58 [(eC (.str dQ)),(aB 0),(aB 0)])])])) (sE (d4 .append (eV 4) [(aq C 58 [(eC (.str il))])]))) (Wm C))
def Wo(C:au):PS:=(sS (sE (d4 .append (eV 4) [(aq C 58 [(eC (.str dP)),(aB 0),(eV 6)])])) (Wn C))
def Wq(C:au):PS:=(sS (sE (d4 .extend (eV 4) [(aq C 60 [(eV 0)])])) (Wo C))
def Wr(C:au):PS:=(sS (sE (d4 .append (eV 4) [(aq C 58 [(eC (.str dQ)),(aB 0),(eV 6)])])) (Wq C))
def Ws(C:au):PS:=(sS (sE (d4 .append (a7 (eV 1) (aB 1)) [(bY [(jr (tE (eV 3)) (eC (.str l_)) (eC (.str ma))),(eV 5),(aX .sub (df .len [(eV 4)]) (aB 1)),(df .len [(eV 4)]),(aB 0)])])) (Wr C))
def Wt(C:au):PS:=(sS (sE (d4 .append (eV 4) [(eV 7)])) (Ws C))
def Jb(C:au):PS:=(sS (sA 7 (aq C 58 [(eC (.str cv)),(aB 0)])) (Wt C))
def Wu(C:au):PS:=(sS (sI (aJ (aq C 57 [(eV 0),(aB 3)]) (c1 .Gt (aB 0))) (sE (d4 .extend (eV 4) [(bY [(aq C 58 [(eC (.str cE))]),(aq C 58 [(eC (.str c_)),(aq C 59 [(eV 0)])]),(aq C 58 [(eC (.str jQ)),(eC (.str uq)),(aB 1),(cj [(eC (.str cE)),(eC .none)])]),(aq C 58 [(eC (.str e7))])])])) sN) (Jb C))
def O3(C:au):PS:=(sS (sE (aq C 64 [(eV 0),(eV 1),(aX .sub (eV 2) (aB 1))])) (Wu C))
def O5(C:au):PS:=(sS (gK (eV 1) (aB 2) (aX .add (eV 6) (aB 1))) (O3 C))
def b65(C:au):PS:=(sS (sU [.name 4,.name 5,.name 6] (cj [(a7 (eV 1) (aB 0)),(df .len [(a7 (eV 1) (aB 0))]),(a7 (eV 1) (aB 2))])) (O5 C))
def Wv(C:au):PS:=(sE (aq C 64 [(eV 0),(eV 1),(eV 3)]))
def Ww(C:au):PS:=(sS (sA 4 (aX .add (bY [(aB 0)]) (aX .mul (bY [(df .len [(a7 (eV 1) (aB 0))])]) (eV 5)))) (Wv C))
def Wx(C:au):PS:=(sR (aq C 5 [(eC (.str jD)),(eC (.str pH)),(eC .none),(fO (aX .add (eC (.str TQ)) (df .str [(eV 17)])) (.one 17) .range [(a7 (eV 1) (aB 2))] []),(eV 6),(eV 11),(bY []),(eV 4)]))
def Wy(C:au):PS:=(sS (sA 11 (fO (aq C 3 [(eV 12),(eV 13),(eV 14),(eV 15),(eV 16)]) (.many [12,13,14,15,16]) .plain [(a7 (eV 1) (aB 1))] [])) (Wx C))
def Wz(C:au):PS:=(sS (sA 6 (fO (aq C 1 [(eV 7),(eV 8),(eV 9),(eV 10),(aB 1)]) (.many [7,8,9,10]) .plain [(a7 (eV 1) (aB 0))] [])) (Wy C))
def Jc(C:au):PS:=(sS (sE (d4 .extend (a7 (eV 1) (aB 0)) [(bY [(aq C 58 [(eC (.str dP)),(aB 0),(aq C 57 [(eV 0),(aB 2)])]),(aq C 58 [(eC (.str f_))])])])) (Wz C))
def Jd(C:au):PS:=(sS (sF (.one 5) .range [(eV 2)] (Ww C)) (Jc C))
def WA(C:au):PS:=(sS (sU [.name 3,.name 4] (cj [(jr (tE (a7 (eV 0) (aB 3))) (aB 0) (aX .add (aB 1) (df .int [(fv (aq C 57 [(eV 0),(aB 4)]) (c1 .Eq (aB 0)))]))),(bY [(aB 0)])])) (Jd C))
def b66(C:au):PS:=(sS (sU [.name 1,.name 2] (cj [(bY [(bY []),(bY []),(aB 2)]),(jr (tE (a7 (eV 0) (aB 3))) (aB 2) (aX .add (aB 1) (aq C 57 [(eV 0),(aB 2)])))])) (WA C))
def b67(C:au):PS:=(sR (jw (fv (eV 0) (c1 .IsNot (eC .none))) (fv (df .repr [(eV 0)]) (c1 .NotEq (eC (.str ⟨#[70,97,108,115,101]⟩))))))
def WB(C:au):PS:=(sE (d4 .append (eV 5) [(cj [(ah (eV 0) 1),(df .repr [(eV 6)])])]))
def WC(C:au):PS:=(sI (aJ (ah (eV 0) 0) (c1 .Eq (eC (.str gM)))) (sS (gK (eV 4) (ah (eV 0) 1) (eV 6)) (WB C)) sN)
def WD(C:au):PS:=(sS (sI (aJ (ah (eV 0) 0) (c1 .Eq (eC (.str dQ)))) (gK (eV 3) (ah (eV 0) 2) (eV 6)) sN) (WC C))
def WE(C:au):PS:=(sI (aJ (ah (eV 0) 0) (c1 .Eq (eC (.str kN)))) (sE (d4 .append (eV 2) [(a7 (d4 .pop (eV 2) []) (aB 1))])) sN)
def WG(C:au):PS:=(sS (sI (aJ (ah (eV 0) 0) (c1 .Eq (eC (.str el)))) (sU [.sub (eV 2) (l8 (aB 1)),.sub (eV 2) (l8 (aB 2))] (cj [(a7 (eV 2) (l8 (aB 2))),(a7 (eV 2) (l8 (aB 1)))])) sN) (WE C))
def WJ(C:au):PS:=(sS (sI (aJ (ah (eV 0) 0) (c1 .Eq (eC (.str fA)))) (sE (d4 .append (eV 2) [(a7 (eV 2) (l8 (aB 1)))])) sN) (WG C))
def WL(C:au):PS:=(sS (sI (aJ (ah (eV 0) 0) (c1 .Eq (eC (.str iv)))) (sE (d4 .append (eV 2) [(d4 .nj (eV 4) [(ah (eV 0) 1)])])) sN) (WJ C))
def WM(C:au):PS:=(sS (sI (aJ (ah (eV 0) 0) (c1 .Eq (eC (.str dP)))) (sE (d4 .append (eV 2) [(a7 (eV 3) (ah (eV 0) 2))])) sN) (WL C))
def WN(C:au):PS:=(sS (sI (aJ (ah (eV 0) 0) (c1 .In (bY [(eC (.str e7)),(eC (.str dQ)),(eC (.str gM))]))) (sS (sA 6 (d4 .pop (eV 2) [])) (WD C)) sN) (WM C))
def E8(C:au):PS:=(sS (sI (aJ (ah (eV 0) 0) (c1 .In (bY [(eC (.str c_)),(eC (.str cE))]))) (sE (d4 .append (eV 2) [(jr (aJ (ah (eV 0) 0) (c1 .Eq (eC (.str c_)))) (ah (eV 0) 1) (eC (.str ur)))])) sN) (WN C))
def b68(C:au):PS:=(sS (sU [.name 2,.name 3,.name 4,.name 5] (eV 1)) (E8 C))
def b69(C:au):PS:=(sR (fO (aq C 70 [(eV 0),(eV 1)]) (.one 1) .plain [(ah (eV 0) 17)] []))
def WO(C:au):PS:=(sA 7 (jr (aJ (ah (eV 5) 1) (c1 .Eq (eC (.str uq)))) (cj [(eC (.str qb)),(eV 8)]) (eC .none)))
def WR(C:au):PS:=(sS (sE (d4 .append (a7 (eV 2) (aB 3)) [(cj [(ah (eV 5) 1),(df .repr [(eV 8)])])])) (WO C))
def WS(C:au):PS:=(sS (gK (eV 6) (l8 (aB 1)) (eV 8)) (WR C))
def WT(C:au):PS:=(sA 3 (ah (a7 (eV 9) (aB 0)) 8))
def WV(C:au):PS:=(sS (gK (eV 2) (aB 0) (aX .add (nE (eV 6) (eC .none) (ah (a7 (eV 9) (aB 0)) 9)) (bY [(eV 7)]))) (WT C))
def WX(C:au):PS:=(sS (sI (aJ (eV 9) (c1 .Eq (bY []))) (sR (bY [(a7 (eV 2) (aB 3)),(eC (.str nJ)),(df .repr [(a7 (eV 7) (aB 1))])])) sN) (WV C))
def Je(C:au):PS:=(sI (aJ (eV 7) (c1 .IsNot (eC .none))) (sS (sA 9 (fO (eV 10) (.one 10) .plain [(ah (eV 0) 15)] [(aJ (ah (eV 10) 6) (c2 .Lt (eV 3) (c1 .LtE (ah (eV 10) 7))))])) (WX C)) sN)
def WY(C:au):PS:=(sS (sE (aq C 68 [(eV 5),(eV 2)])) (Je C))
def WZ(C:au):PS:=(sS (sI (aJ (ah (eV 5) 0) (c1 .Eq (eC (.str il)))) (sA 7 (d4 .pop (eV 6) [])) sN) (WY C))
def O6(C:au):PS:=(sS (sI (aJ (ah (eV 5) 0) (c1 .Eq (eC (.str jQ)))) (sS (sA 8 (d4 .pop (eV 6) [])) (WS C)) sN) (WZ C))
def O7(C:au):PS:=(sS (sI (l9 (aJ (ah (eV 5) 0) (c1 .Eq (eC (.str cv)))) (gZ (aJ (ah (eV 5) 0) (c1 .In (bY [(eC (.str cy)),(eC (.str bB))]))) (aJ (aq C 67 [(d4 .pop (eV 6) [])]) (c1 .Eq (fv (ah (eV 5) 0) (c1 .Eq (eC (.str cy)))))))) (sA 3 (ah (eV 5) 1)) sN) (O6 C))
def E9(C:au):PS:=(sS (sI (aJ (ah (eV 5) 0) (c1 .Eq (eC (.str f_)))) (sR (bY [(a7 (eV 2) (aB 3)),(eC (.str fF)),(df .repr [(d4 .pop (eV 6) [])])])) sN) (O7 C))
def O8(C:au):PS:=(sS (sA 3 (aX .add (eV 3) (aB 1))) (E9 C))
def E_(C:au):PS:=(sS (sU [.name 5,.name 6,.name 7] (cj [(a7 (ah (eV 0) 14) (eV 3)),(a7 (eV 2) (aB 0)),(eC .none)])) (O8 C))
def Fb(C:au):PS:=(sR (bY [(a7 (eV 2) (aB 3)),(eC (.str ⟨#[108,111,110,103]⟩)),(eC (.str k_))]))
def O9(C:au):PS:=(sS (sF (.one 4) .range [(aB 300)] (E_ C)) (Fb C))
def b70(C:au):PS:=(sS (sU [.name 2,.name 3] (cj [(bY [(bY []),(aX .mul (bY [(eC .none)]) (df .len [(ah (eV 0) 13)])),Ce,(bY [])]),(eV 1)])) (O9 C))
def b71(C:au):PS:=(sR (fO (cj [(ah (eV 1) 0),(ah (eV 1) 1),(ah (eV 1) 2),(ah (eV 1) 3)]) (.one 1) .plain [(ah (eV 0) 14)] []))
def Cw(C:au):PS:=(sR (jw (fv (a7 (eV 3) (aB 0)) (c1 .Eq (eC (.str fA)))) (jw (fv (a7 (eV 3) (aB 1)) (c1 .In (bY [(eC (.str dQ)),(eC (.str lH)),(eC (.str gM)),(eC (.str lI))]))) (jw (fv (nE (eV 3) (aB 2) (eC .none)) (c1 .Eq (bY [(eC (.str e7))]))) (fv (aX .add (eV 1) (aB 2)) (c1 .NotIn (eV 2)))))))
def Cy(C:au):PS:=(sS (sI (gZ (aJ (eV 5) (c1 .IsNot (eC .none))) (aJ (ah (eV 5) 0) (c1 .In (bY [(eC (.str cy)),(eC (.str bB))])))) (sR (eC (.bool true))) sN) (Cw C))
def Cz(C:au):PS:=(sS (sA 5 (jr (aJ (nE (eV 3) (eC .none) (aB 2)) (c1 .Eq (bY [(eC (.str c_)),(eC (.str cv))]))) (a7 (ah (eV 0) 14) (ah (a7 (ah (eV 0) 14) (aX .add (eV 1) (aB 1))) 1)) (eC .none))) (Cy C))
def CA(C:au):PS:=(sS (sI (gZ (aJ (a7 (eV 3) (aB 0)) (c1 .In (bY [(eC (.str cy)),(eC (.str bB))]))) (gZ (aJ (a7 (eV 3) (aB 1)) (c1 .Eq (eC (.str cv)))) (aJ (ah (a7 (ah (eV 0) 14) (eV 1)) 1) (c1 .Eq (aX .add (eV 1) (aB 2)))))) (sR (eC (.bool true))) sN) (Cz C))
def CB(C:au):PS:=(sS (sI (l9 (gZ (aJ (a7 (eV 3) (aB 0)) (c1 .Eq (eC (.str c_)))) (aJ (a7 (eV 3) (aB 1)) (c1 .In (bY [(eC (.str cy)),(eC (.str bB))])))) (aJ (nE (eV 3) (eC .none) (aB 2)) (c1 .In (bY [(bY [(eC (.str el)),(eC (.str el))]),(bY [(eC (.str fA)),(eC (.str el))])])))) (sR (eC (.bool true))) sN) (CA C))
def Jf(C:au):PS:=(sS (sI (gZ (aJ (a7 (eV 3) (aB 0)) (c1 .In (bY [(eC (.str c_)),(eC (.str cE)),(eC (.str dP)),(eC (.str lG)),(eC (.str iv)),(eC (.str fA)),(eC (.str fP))]))) (aJ (a7 (eV 3) (aB 1)) (c1 .Eq (eC (.str e7))))) (sR (eC (.bool true))) sN) (CB C))
def Jg(C:au):PS:=(sS (sI (l9 (aJ (df .len [(eV 3)]) (c1 .Lt (aB 2))) (aJ (aX .add (eV 1) (aB 1)) (c1 .In (eV 2)))) (sR (eC (.bool false))) sN) (Jf C))
def b72(C:au):PS:=(sS (sA 3 (fO (ah (eV 4) 0) (.one 4) .plain [(nE (ah (eV 0) 14) (eV 1) (aX .add (eV 1) (aB 3)))] [])) (Jg C))
def W4(C:au):PS:=(sI (gZ (aJ (ah (eV 2) 0) (c1 .Eq (eC (.str cv)))) (aJ (ah (a7 (ah (eV 0) 14) (ah (eV 2) 1)) 0) (c1 .Eq (eC (.str f_))))) (sR (eC (.bool false))) sN)
def Jh(C:au):PS:=(sS (sI (l9 (gZ (aJ (nE (ah (eV 2) 0) (eC .none) (aB 4)) (c1 .Eq (eC (.str cv)))) (l9 (aJ (ah (eV 2) 1) (c1 .Eq (aX .add (eV 5) (aB 1)))) (aJ (ah (a7 (ah (eV 0) 14) (ah (eV 2) 1)) 0) (c1 .Eq (eC (.str cv)))))) (tE (aq C 72 [(eV 0),(eV 5),(eV 3)]))) (sR (eC (.bool false))) sN) (W4 C))
def W5(C:au):PS:=(sR (eC (.bool true)))
def W6(C:au):PS:=(sS (sF (.many [5,2]) .enum [(ah (eV 0) 14)] (Jh C)) (W5 C))
def W7(C:au):PS:=(sS (sA 3 (aX .add (aX .add (eV 1) (fO (ah (eV 4) 8) (.one 4) .plain [(ah (eV 0) 15)] [])) (ah (eV 0) 17))) (W6 C))
def W8(C:au):PS:=(sS (sA 1 (fO (ah (eV 2) 1) (.one 2) .plain [(ah (eV 0) 14)] [(aJ (nE (ah (eV 2) 0) (eC .none) (aB 4)) (c1 .Eq (eC (.str cv))))])) (W7 C))
def b73(C:au):PS:=(sS (sI (l9 (aJ (aq C 71 [(aq C 53 [(eV 0)])]) (c1 .NotEq (aq C 71 [(eV 0)]))) (aJ (eC .none) (c1 .In (aq C 35 [(eV 0)])))) (sR (eC (.bool false))) sN) (W8 C))
def Ji(C:au):PS:=(sI (l9 (aJ (aq C 69 [(eV 11)]) (c1 .NotEq (eV 4))) (l9 (aJ (df .len [(ah (eV 11) 14)]) (c1 .Gt (df .len [(eV 5)]))) (aJ (aq C 35 [(eV 11)]) (c1 .Eq (bY []))))) (sR (eC (.bool false))) sN)
def Jj(C:au):PS:=(sI (l9 (lF (tE (aq C 73 [(a7 (eV 6) (l8 (aB 1)))]))) (aJ (aq C 71 [(eV 3)]) (c1 .NotEq (eV 5)))) (sR (eC (.bool false))) sN)
def Jk(C:au):PS:=(sS (sF (.one 11) .plain [(eV 6)] (Ji C)) (Jj C))
def CC(C:au):PS:=(sS (sA 6 (aX .add (eV 6) (bY [(aq C 55 [(eV 3),(eV 9)]),(aq C 53 [(eV 3)])]))) (Jk C))
def Jl(C:au):PS:=(sS (sA 9 (fO (a7 (a7 (eC iP) (aq C 57 [(eV 2),(df .len [(eC iP)])])) (aB 0)) (.one 10) .range [(jr (tE (a7 (eV 2) (aB 3))) (aB 1) (aX .add (aB 1) (aq C 57 [(eV 2),(aB 5)])))] [])) (CC C))
def Jm(C:au):PS:=(sS (sA 6 (jr (tE (a7 (eV 2) (aB 3))) (bY []) (fO (oQ C (eV 8) [(eV 3)]) (.many [7,8]) .plain [(eC iP)] []))) (Jl C))
def Jn(C:au):PS:=(sS (sU [.name 4,.name 5] (cj [(aq C 69 [(eV 3)]),(aq C 71 [(eV 3)])])) (Jm C))
def W9(C:au):PS:=(sS (sA 3 (aq C 66 [(eV 2)])) (Jn C))
def CD(C:au):PS:=(sS (sA 2 (aq C 56 [(eV 0),(eV 1)])) (W9 C))
def Fc(C:au):PS:=(sR (eC (.bool true)))
def b74(C:au):PS:=(sS (sF (.one 1) .range [(aX .add (aB 1) (df .int [(fv (df .len [(eV 0)]) (c1 .Gt (aB 1)))]))] (CD C)) (Fc C))
def fns:List Fn:=[⟨1,[],1,.fn b0⟩,
 ⟨6,[.none,.none,.none,(.int 0)],6,.cls 0 b1⟩,
 ⟨2,[],2,.fn b2⟩,
 ⟨6,[],6,.cls 1 b3⟩,
 ⟨2,[],2,.fn b4⟩,
 ⟨9,[],9,.cls 2 b5⟩,
 ⟨3,[],3,.fn b6⟩,
 ⟨5,[],5,.fn b7⟩,
 ⟨1,[],1,.fn b8⟩,
 ⟨1,[],1,.fn b9⟩,
 ⟨1,[],1,.fn b10⟩,
 ⟨1,[],1,.fn b11⟩,
 ⟨1,[],1,.fn b12⟩,
 ⟨1,[],1,.fn b13⟩,
 ⟨1,[],1,.fn b14⟩,
 ⟨1,[],1,.fn b15⟩,
 ⟨1,[],1,.fn b16⟩,
 ⟨1,[],1,.fn b17⟩,
 ⟨1,[],1,.fn b18⟩,
 ⟨1,[],1,.fn b19⟩,
 ⟨1,[],2,.fn b20⟩,
 ⟨1,[],1,.fn b21⟩,
 ⟨1,[],1,.fn b22⟩,
 ⟨2,[],2,.fn b23⟩,
 ⟨3,[],3,.fn b24⟩,
 ⟨1,[],2,.fn b25⟩,
 ⟨3,[],3,.cls 3 b26⟩,
 ⟨3,[],3,.fn b27⟩,
 ⟨4,[],5,.fn b28⟩,
 ⟨3,[],8,.fn b29⟩,
 ⟨3,[],3,.fn b30⟩,
 ⟨3,[],6,.fn b31⟩,
 ⟨2,[],7,.fn b32⟩,
 ⟨1,[],3,.fn b33⟩,
 ⟨1,[],4,.fn b34⟩,
 ⟨2,[(.tup [])],4,.fn b35⟩,
 ⟨2,[],2,.fn b36⟩,
 ⟨1,[],1,.fn b37⟩,
 ⟨1,[],5,.fn b38⟩,
 ⟨2,[],10,.fn b39⟩,
 ⟨2,[],4,.fn b40⟩,
 ⟨1,[],4,.fn b41⟩,
 ⟨1,[],6,.fn b42⟩,
 ⟨1,[],3,.fn b43⟩,
 ⟨1,[],4,.fn b44⟩,
 ⟨1,[],4,.fn b45⟩,
 ⟨2,[],2,.fn b46⟩,
 ⟨1,[],9,.fn b47⟩,
 ⟨1,[],7,.fn b48⟩,
 ⟨1,[],4,.fn b49⟩,
 ⟨1,[],4,.fn b50⟩,
 ⟨1,[],2,.fn b51⟩,
 ⟨1,[],5,.fn b52⟩,
 ⟨1,[],3,.fn b53⟩,
 ⟨1,[],3,.fn b54⟩,
 ⟨2,[],5,.fn b55⟩,
 ⟨2,[],3,.fn b56⟩,
 ⟨2,[],4,.fn b57⟩,
 ⟨4,[.none,.none,.none],4,.fn ON⟩,
 ⟨1,[],1,.fn b59⟩,
 ⟨1,[],1,.fn b60⟩,
 ⟨2,[],3,.fn b61⟩,
 ⟨3,[],7,.fn b62⟩,
 ⟨2,[],3,.fn b63⟩,
 ⟨3,[],9,.fn b64⟩,
 ⟨4,[],8,.fn b65⟩,
 ⟨1,[],18,.fn b66⟩,
 ⟨1,[],1,.fn b67⟩,
 ⟨2,[],7,.fn b68⟩,
 ⟨1,[],2,.fn b69⟩,
 ⟨2,[],11,.fn b70⟩,
 ⟨1,[],2,.fn b71⟩,
 ⟨3,[],6,.fn b72⟩,
 ⟨1,[],6,.fn b73⟩,
 ⟨1,[],12,.fn b74⟩]
def fieldNames:List Str:=[z7,Co,G5,pH,E3,yC,nN,uu,md,nO,yD,oW,xp,vd,fG,mM,nP,oX,⟨#[110,117,109,98,101,114]⟩,dJ,⟨#[115,101,101,110]⟩,⟨#[100,101,112,116,104,115]⟩,ve]
def iG:List Str:=[⟨#[119,105,116,104,95,116,97,114,103,101,116]⟩,⟨#[99,111,118,101,114,115]⟩,⟨#[99,97,116,99,104,95,97,116]⟩,⟨#[119,105,116,104,95,114,111,119,115]⟩,⟨#[102,97,105,108]⟩,⟨#[114,101,97,99,104]⟩,⟨#[110,101,101,100,95,102,111,114,109]⟩,⟨#[110,101,101,100,95,115,108,111,116,115]⟩,⟨#[110,101,101,100,95,99,104,105,108,100]⟩,qP,⟨#[110,101,101,100,95,99,97,116,99,104,101,115]⟩,TR]
def CE:List (Str×MV):=[(⟨#[68,69,70,73,78,69,68,95,79,78,95,84,79,80]⟩,lJ),(⟨#[69,70,70,69,67,84,83]⟩,jE),(⟨#[79,85,84,95,83,79,82,84,83]⟩,qR),(⟨#[68,69,70,73,78,69,68,95,83,79,82,84,83]⟩,me),(⟨#[83,69,78,68,95,75,73,78,68,83]⟩,pO),(⟨#[79,80,69,82,65,78,68,83]⟩,jY),(⟨#[74,85,77,80,83]⟩,i8),(⟨#[69,78,68,83]⟩,yI),(⟨#[67,65,84,67,72,95,83,79,82,84,83]⟩,nS),(⟨#[67,79,68,69,95,75,73,78,68,83]⟩,pQ),(⟨#[80,76,65,73,78]⟩,Ac),(⟨#[83,84,79,82,69,83]⟩,xw),(⟨#[66,82,65,78,67,72,69,83]⟩,jZ),(⟨#[77,79,83,84,95,82,79,85,78,68,83]⟩,nU),(⟨#[80,65,83,83,69,83]⟩,iP)]
def Jo:List Str:=[⟨#[95,119,97,108,108]⟩,⟨#[82,111,119]⟩,⟨#[82,111,119,46,119,105,116,104,95,116,97,114,103,101,116]⟩,⟨#[67,97,116,99,104]⟩,⟨#[67,97,116,99,104,46,99,111,118,101,114,115]⟩,⟨#[67,111,100,101]⟩,⟨#[67,111,100,101,46,99,97,116,99,104,95,97,116]⟩,⟨#[67,111,100,101,46,119,105,116,104,95,114,111,119,115]⟩,⟨#[103,105,118,101,110]⟩,⟨#[112,97,115,115,101,100]⟩,⟨#[116,117,99,107,95,101,102,102,101,99,116]⟩,⟨#[108,105,115,116,95,101,102,102,101,99,116]⟩,⟨#[116,97,98,108,101,95,101,102,102,101,99,116]⟩,⟨#[115,101,110,100,95,101,102,102,101,99,116]⟩,⟨#[115,117,112,101,114,95,101,102,102,101,99,116]⟩,⟨#[122,115,117,112,101,114,95,101,102,102,101,99,116]⟩,⟨#[121,105,101,108,100,95,101,102,102,101,99,116]⟩,⟨#[99,108,97,115,115,95,101,102,102,101,99,116]⟩,⟨#[100,101,102,105,110,101,100,95,101,102,102,101,99,116]⟩,⟨#[115,112,114,101,97,100,116,111,95,101,102,102,101,99,116]⟩,⟨#[101,102,102,101,99,116,95,111,102]⟩,⟨#[105,115,95,119,104,111,108,101]⟩,⟨#[105,115,95,98,108,111,99,107]⟩,⟨#[105,115,95,115,111,114,116]⟩,⟨#[105,115,95,111,112,101,114,97,110,100]⟩,⟨#[99,104,105,108,100,95,111,102]⟩,⟨#[82,111,119,67,104,101,99,107]⟩,⟨#[82,111,119,67,104,101,99,107,46,102,97,105,108]⟩,⟨#[82,111,119,67,104,101,99,107,46,114,101,97,99,104]⟩,⟨#[82,111,119,67,104,101,99,107,46,110,101,101,100,95,102,111,114,109]⟩,⟨#[82,111,119,67,104,101,99,107,46,110,101,101,100,95,115,108,111,116,115]⟩,⟨#[82,111,119,67,104,101,99,107,46,110,101,101,100,95,99,104,105,108,100]⟩,⟨#[82,111,119,67,104,101,99,107,46,115,116,101,112]⟩,⟨#[82,111,119,67,104,101,99,107,46,110,101,101,100,95,99,97,116,99,104,101,115]⟩,⟨#[82,111,119,67,104,101,99,107,46,114,117,110]⟩,⟨#[99,104,101,99,107,95,114,111,119,115]⟩,⟨#[105,115,95,111,112]⟩,⟨#[116,114,117,116,104]⟩,⟨#[109,97,114,107,115,95,111,102]⟩,⟨#[112,114,101,115,115,101,100]⟩,⟨#[101,110,100,95,111,102,95,106,117,109,112,115]⟩,nL,⟨#[114,101,97,99,104,101,100]⟩,⟨#[119,105,116,104,111,117,116,95,100,101,97,100]⟩,⟨#[119,105,116,104,111,117,116,95,112,117,115,104,101,115]⟩,⟨#[119,105,116,104,111,117,116,95,99,111,112,105,101,115]⟩,⟨#[105,115,95,116,97,107,101,110]⟩,⟨#[119,105,116,104,95,107,110,111,119,110,95,98,114,97,110,99,104,101,115]⟩,⟨#[119,105,116,104,95,116,117,114,110,101,100,95,98,114,97,110,99,104,101,115]⟩,⟨#[119,105,116,104,111,117,116,95,115,104,111,114,116,95,106,117,109,112,115]⟩,⟨#[119,105,116,104,111,117,116,95,115,119,97,112,115]⟩,⟨#[115,104,97,112,101]⟩,⟨#[116,105,100,105,101,100,95,97,108,111,110,101]⟩,⟨#[116,105,100,121]⟩,⟨#[112,97,115,115,95,110,97,109,101,100]⟩,⟨#[112,97,115,115,101,100,95,98,121]⟩,⟨#[95,108,97,119,95,98,111,120]⟩,⟨#[95,108,97,119,95,116,97,107,101]⟩,⟨#[95,108,97,119,95,114,111,119]⟩,⟨#[95,108,97,119,95,118,97,108,117,101]⟩,⟨#[95,108,97,119,95,110,111,116,101]⟩,⟨#[95,108,97,119,95,110,111,116]⟩,⟨#[95,108,97,119,95,115,105,109,112,108,101]⟩,⟨#[95,108,97,119,95,98,114,97,110,99,104]⟩,⟨#[95,108,97,119,95,112,105,101,99,101]⟩,⟨#[95,108,97,119,95,99,97,117,103,104,116]⟩,⟨#[95,108,97,119,95,99,111,100,101]⟩,⟨#[95,108,97,119,95,104,111,108,100,115]⟩,⟨#[95,108,97,119,95,112,108,97,105,110,95,114,111,119]⟩,⟨#[95,108,97,119,95,114,117,110,115]⟩,⟨#[95,108,97,119,95,114,117,110]⟩,⟨#[95,108,97,119,95,114,111,119,115]⟩,⟨#[95,108,97,119,95,105,115,95,108,101,102,116]⟩,⟨#[95,108,97,119,95,116,105,100,121,95,114,105,103,104,116]⟩,⟨#[108,97,119]⟩]
def O_:List (List Str):=[[Cp],
 [cE,z7,Co,G5,pH,E3],
 [cE,md],
 [cE,yC,nN,uu,md,nO],
 [cE,eH],
 [cE,yD,oW,xp,vd,fG,mM,nP,oX],
 [cE,eH,⟨#[115,111,114,116,115]⟩],
 [cE,fG,mM,oX,nP],
 [⟨#[97,114,103,99]⟩],
 [k6],
 [dw],
 [dw],
 [dw],
 [dw],
 [dw],
 [dw],
 [dw],
 [dw],
 [dw],
 [dw],
 [dw,uv],
 [fF],
 [fF],
 [dw,fF],
 [dw,xq,fF],
 [dw,k6],
 [cE,dJ,z8],
 [cE,eH,⟨#[114,101,97,115,111,110]⟩],
 [cE,eH,nO,⟨#[111,114,105,103,105,110]⟩,⟨#[107,110,111,119,110]⟩],
 [cE,eH,dw,⟨#[108,101,116,116,101,114,115]⟩,uv,E4,xq,fF],
 [cE,eH,dw],
 [cE,eH,dw,uv,⟨#[105,110,100,101,120]⟩,yD],
 [cE,eH,dw,nO,z9,⟨#[112,117,116]⟩,k_one],
 [cE,k_one,yE],
 [cE,eH,dw,nQ],
 [dJ,z8,⟨#[99,104,101,99,107]⟩,qM],
 [dw,⟨#[111,112,115]⟩],
 [fF],
 [dJ,qQ,dw,k_one,nQ],
 [dJ,fG,⟨#[112,108,97,99,101,115]⟩,⟨#[107,101,112,116]⟩,dw,mM,k_one,nN,uu,nQ],
 [dJ,eH,qQ,yF],
 [dJ,fG,dw,md],
 [dJ,qQ,ve,eH,dw,k_one],
 [dJ,dw,⟨#[104,101,114,101]⟩],
 [dJ,fG,nR,eH],
 [dJ,fG,nR,eH],
 [xr,fF],
 [dJ,fG,nR,eH,dw,k_behind,z9,xr,md],
 [dJ,fG,nR,eH,dw,k_behind,z7],
 [dJ,fG,eH,dw],
 [dJ,fG,nR,eH],
 [dJ,dw],
 [dJ,yF,xt,oW,qP],
 [dJ,qQ,qM],
 [oW,uv,qP],
 [dJ,z_,oW,qP,qM],
 [xu,Cp,⟨#[99,101,108,108]⟩],
 [lU,yE,⟨#[100,105,103,105,116]⟩,⟨#[98,108,101,110,100]⟩],
 [z7,Co,G5,pH],
 [lU],
 [lU],
 [lU,fG,Aa],
 [lU,fG,qb,yG,E5,OI,⟨#[116,119,105,99,101]⟩],
 [lU,fG,qb],
 [lU,k_made,yH,fG,qb,⟨#[97,115,107]⟩,E6,yG,Aa],
 [lU,k_made,yH,⟨#[105,115,95,114,101,115,99,117,101]⟩,fG,nN,yG,E6],
 [lU,k_made,yE,yH,oX,yF,fG,z7,Co,G5,pH,kN,yC,nN,uu,E7,nO,Cp],
 [fF],
 [dw,k_state,Ab,vd,⟨#[98,121,110,97,109,101]⟩,⟨#[110,111,116,101,115]⟩,fF],
 [dJ,nQ],
 [dJ,nQ,k_state,E4,IZ,dw,Ab,nJ,fF,E5,k_one],
 [dJ,dw],
 [dJ,E4,I0,⟨#[119,111,114,100,115]⟩,dw,E7],
 [dJ,⟨#[103,111,97,108,115]⟩,dw,I0,k_one,E4],
 [xu,Cp,lU,dJ,⟨#[100,117,101]⟩,xt,⟨#[116,114,105,101,100]⟩,oW,qP,z_,IZ,⟨#[116,119,105,110]⟩]]
end Mine
namespace Mine
open List PySem PySem.W PyProof.Rows PySem.Calls PySem.Challenge
noncomputable abbrev pw:Program:=pw_nu0280_01
noncomputable def Fd:List Nat:=[21,87,84,115,112,150,140,147,161,168,175,182,189,196,203,210,217,224,231,238,298,308,315,322,329,336,407,357,364,369,376,383,390,397,404,420,430,437,444,449,456,463,470,475,482,489,496,503,510,517,524,538,545,550,557,562,569,576,584,591,598,605,612,619,626,633,638,645,652,657,662,667,672,677,682]
def c5(f:Nat):Addr:=Fd.getD f 0
noncomputable def dD(c:Nat):Addr:=[87,115,150,407].getD c 0
noncomputable def rO(c:Nat):Addr:=[77,105,133,350].getD c 0
def eu(c:Nat):List Str:=(mI.getD c []).map λk=>fieldNames.getD k k_
noncomputable def tyName(t:Ty):String:=match t with
 | .tuple=>"tuple"
 | .int=>"int"
 | .bool=>"bool"
 | .list=>"list"
 | .str=>"str"
noncomputable def yJ(b:Bi):Value:=match b with
 | .len=>.builtin "len"
 | .sum=>.builtin "sum"
 | .max=>.builtin "max"
 | .abs=>.builtin "abs"
 | .int=>.type "int"
 | .str=>.type "str"
 | .repr=>.builtin "repr"
 | .list=>.type "list"
abbrev Sc:=List (Str×NameKind)
def kf:List (Str×MV):=CE++((Jo.zipIdx.filter λp=>!([2,4,6,7,27,28,29,30,31,32,33,34].contains p.2)).map λp=>(p.1,MV.fn p.2))
noncomputable def isNil(l:List α):Bool:=match l with|[]=>true|_=>false
noncomputable def nV:List Str:=["len","sum","max","abs","int","str","repr","list"]
noncomputable def Jp:List Bi:=[.len,.sum,.max,.abs,.int,.str,.repr,.list]
noncomputable def mf:List Str:=["tuple","int","bool","list","str"]
noncomputable def tys:List Ty:=[.tuple,.int,.bool,.list,.str]
noncomputable def k9:List Str:=["range","enumerate","zip"]
noncomputable def vf:List Ik:=[.range,.enum,.zip]
noncomputable def nW:Str:="isinstance"
noncomputable def yK:List Str->Bool
 |[]=>true
 |i::l=>!(c7 i l)&&yK l
structure FD where
 body:List Stmt
 scope:Scope
noncomputable def Su(x:Stmt)(k:List Stmt->List FD):List FD:=if h:x.ctorIdx=0 then Stmt.FunctionDef.elim (motive_2:=λZ=>List FD) x h λ_ _ b _ _ _ s _ _ _=>[⟨b,s⟩]else if h:x.ctorIdx=2 then Stmt.ClassDef.elim (motive_2:=λZ=>List FD) x h λ_ _ _ b _ _ _ _ _ _ _=>k b else[]
def fds(x:Stmt):List FD:=Su x λb=>b.flatMap λx=>Su x λZ=>[]
def O':List FD:=(pw.main.body.take 2++pw.main.body.drop 4).flatMap fds
noncomputable def yL(k:Ik):Value:=match k with
 | .range=>.type "range"
 | .enum=>.type "enumerate"
 | .zip=>.type "zip"
 | .plain=>.none
def qc:List (Str×Value):=(nW,.builtin "isinstance")::((nV.zip Jp).map λp=>(p.1,yJ p.2))++((mf.zip tys).map λp=>(p.1,.type (tyName p.2)))++(k9.zip vf).map λp=>(p.1,yL p.2)
noncomputable def i_(v:Value)(n:α)(b:Bool->α)(i:Int->α)(s:Str->α)(r:Addr->α)(o:α):α:=match v with
 | .none=>n
 | .bool x=>b x
 | .int x _=>i x
 | .str x _=>s x
 | .ref a=>r a
 |_=>o
noncomputable def no(_:α):Bool:=false
noncomputable def mh(o:Obj):Option (Value×Data):=match o with|⟨c,d,e,sl⟩=>(match d with|none=>(match sl.isEmpty with|true=>some (c,e)|false=>none)|some _=>none)
noncomputable def Sv(k:List Value->Bool)(d:Data):Bool:=match d with| .seq vs _=>k vs.toList|_=>false
def vg(K:Frag)(a:Addr)(n:String)(k:List Value->Bool):Bool:=match K.lookup a with
 |some o=>(match mh o with|some p=>p.1==.type n&&Sv k p.2|none=>false)
 |none=>false
mutual
noncomputable def Jq(K:Frag):MV->Value->Bool
 | .none,v=>i_ v true no no no no false
 | .bool a,v=>i_ v false (a==·) no no no false
 | .int a,v=>i_ v false no (a==·) no no false
 | .str a,v=>i_ v false no no (seq a) no false
 | .fn f,v=>i_ v false no no no (c5 f==·) false
 | .tup l,v=>i_ v false no no no (λa=>vg K a "tuple" (mN K l)&&decide (l.length<=cL)) false
 | .aQ l,v=>i_ v false no no no (λa=>vg K a "list" (mN K l)&&decide (l.length<=cL)) false
 |_,_=>false
noncomputable def mN(K:Frag):List MV->List Value->Bool
 |[],vs=>isNil vs
 |m::ms,vs=>match vs with|[]=>false|v::vs=>Jq K m v&&mN K ms vs
end
noncomputable def fdOf(o:Obj):Option FuncData:=match o.data with| .func fd=>some fd|_=>none
noncomputable def CF(o:Obj):Bool:=match o.data with| .cls _=>true|_=>false
noncomputable def CG(o:Obj):Option (Array Value):=match o.data with| .seq vs _=>some vs|_=>none
noncomputable def qS(b:FuncBody):Option (List Stmt):=match b with| .stmts b=>some b|_=>none
def vj(K:Frag)(a:Addr):Option FuncData:=match K.lookup a with|some o=>fdOf o|none=>none
def CJ(K:Frag)(a:Addr):Option (Array Value):=match K.lookup a with|some o=>CG o|none=>none
def uw(K:Frag)(a:Addr):Bool:=match K.lookup a with|some o=>CF o|none=>false
def rP(K:Frag)(a:Addr):Option FD:=match vj K a with|some fd=>(match qS fd.body with|some b=>some ⟨b,fd.scope⟩|none=>none)|none=>none
def Ae(p:Arguments)(ns:List Str):Bool:=isNil p.posonlyargs&&p.vararg.isNone&&isNil p.kwonlyargs&&p.kwarg.isNone&&p.args.map (·.arg)==ns
def Sw(K:Frag)(v:Value)(l:List MV):Bool:=i_ v (isNil l) no no no (λa=>match CJ K a with|some vs=>mN K l vs.toList|none=>false) false
def fdB(K:Frag)(fd:FuncData)(n:List Str)(eI:List MV):Bool:=isNil fd.closure&&Nat.beq fd.globals mainGlobals&&Nat.beq fd.builtins builtinsNs&&codeIn K fd.code fd.qualname&&Ae fd.params n&&Sw K fd.defaults eI
noncomputable def Jr(sc:Sc)(x:Str):Bool:=match sc.lookup x with|some k=>(match k with| .local=>true| .cell=>true|_=>false)|none=>false
noncomputable def frB(p:Str×NameKind):Bool:=match p.2 with| .free=>false|_=>true
def scB(sc:Scope)(v:List Str)(n:Nat):Bool:=sc.kind== .function&&!sc.isCoroutine&&!sc.isGenerator&&yK v&&yK (sc.names.map Prod.fst)&&(v.take n).all (Jr sc.names)&&sc.names.all frB
def Pa(K:Frag)(a:Addr)(v:List Str)(f:Fn):Bool:=match vj K a with
 |some fd=>fdB K fd (v.take f.params) f.gk&&scB fd.scope v f.params&&Nat.beq v.length f.aa&&Nat.ble f.gk.length f.params&&Nat.ble f.params v.length
 |none=>false
def aao:List Nat:=(((Fd.set 1 77).set 3 105).set 5 133).set 26 350
def Js(f:Nat):Addr:=aao.getD f 0
def nX(f:Nat):List Str:=O_.getD f []
def rQ(f:Nat):FD:=O'.getD f ⟨[],default⟩
noncomputable def qT(f:Nat):Bool:=Nat.beq f 0||Nat.beq f 6
def W_(K:Frag)(c:Nat):Bool:=
 makesIn K (dD c)&&findIn K (.ref (dD c)) "__init__" ==some (some (.ref (rO c)))&&typeIn K (.ref (rO c))==some (.type "function")&&
 findIn K (.ref (dD c)) "__setattr__" ==some (some (.builtin "object.__setattr__"))&&plainOver K (dD c)&&(clsIn K (dD c)).any (·.hasDict)&&(eu c).all (λf=>findIn K (.ref (dD c)) f==some none)&&yK (eu c)&&Nat.ble (eu c).length 900
def CK(f c:Nat):Bool:=match nX f with
 |[]=>false
 |x::_=>(rQ f).scope.names.lookup x==some .local&&!(x==("__debug__" :Str))&&Nat.beq (rQ f).body.length (eu c).length
def qd(K:Frag)(f:Nat)(a:Fn):Bool:=match a.body with
 | .fn _=>(vj K (c5 f)).isSome&&(qT f||(Nat.beq (Js f) (c5 f)&&Pa K (c5 f) (nX f) a))
 | .cls c _=>Nat.beq (c5 f) (dD c)&&Nat.beq (Js f) (rO c)&&W_ K c&&Pa K (rO c) (nX f) a&&CK f c&&uw K (c5 f)&&specialIn K (.ref (c5 f)) "__call__" ==some (some (.builtin "type.__call__"))
noncomputable def allI{α:Type}(p:Nat->α->Bool):Nat->List α->Bool
 |_,[]=>true
 |i,x::l=>p i x&&allI p (i+1) l
def Fe(K:Frag)(c:Nat)(p:Nat×Nat):Bool:=(match iG[p.1]? with|some n=>findIn K (.ref (dD c)) n==some (some (.ref (c5 p.2)))&&!(c7 n (eu c))|none=>false)&&typeIn K (.ref (c5 p.2))==some (.type "function")
def Af(K:Frag)(c:Nat)(m:List (Nat×Nat)):Bool:=W_ K c&&findIn K (.ref (dD c)) "__getattribute__" ==some (some (.builtin "object.__getattribute__"))&&findIn K (.ref (dD c)) "__getattr__" ==some none&&m.all (Fe K c)
noncomputable def CL:List DictEntry->List Str->Bool
 |[],ns=>isNil ns
 |e::es,ns=>match ns with|[]=>false|n::ns=>i_ e.key false no no (seq n) no false&&CL es ns
def CM(K:Frag)(a:Addr)(k:List DictEntry->Bool):Bool:=match K.lookup a with
 |some o=>(match mh o with|some p=>p.1==.type "dict" &&(match p.2 with| .dict es _=>k es.toList|_=>false)|none=>false)
 |none=>false
def Xa(K:Frag)(a:Addr)(m:MV):Bool:=match m with
 | .dZ ks ms=>yK ks&&CM K a λes=>CL es ks&&mN K ms (es.map (·.val))
 |_=>false
noncomputable def Jt(m:MV):Bool:=match m with| .dZ .. =>true|_=>false
def CN(K:Frag)(m:MV)(v:Value):Bool:=match Jt m with
 |true=>i_ v false no no no (λa=>Xa K a m&&!(a==sysModules)) false
 |false=>Jq K m v
noncomputable def Ju(K:Frag)(x:Str)(k:Value->α)(d:α):α:=match nsIn K mainGlobals x with|some (some v)=>k v|_=>d
def Jv(K:Frag)(p:Str×MV):Bool:=!(p.1==("__debug__" :Str))&&Ju K p.1 (CN K p.2) false
noncomputable def biB(K:Frag)(p:Str×Value):Bool:=!(p.1==("__debug__" :Str))&&nsIn K mainGlobals p.1==some none&&!(p.1==("__name__" :Str))&&bootBuiltins p.1==some p.2
noncomputable def Ag(K:Frag)(a:Addr):List Int:=match K.lookup a with
 |some o=>(match o.data with| .dict es _=>es.toList.map (·.hash)|_=>[])
 |none=>[]
noncomputable def keysOf(P:Params)(m:MV):List Int:=match m with
 | .dZ ks _=>ks.map (PyData.keyHash P)
 |_=>[]
def Pb(K:Frag)(p:Str×MV):List Int:=match Jt p.2 with
 |true=>Ju K p.1 (λv=>i_ v [] (λZ=>[]) (λZ=>[]) (λZ=>[]) (Ag K) []) []
 |false=>[]
def Jw(K:Frag)(f:Nat):Bool:=match K.lookup (c5 f)with|some o=>o.cls== .type "function" |none=>false
def allB(K:Frag):Bool:=allI (qd K) 0 fns&&allI (Af K) 0 jW&&kf.all (Jv K)&&qc.all (biB K)&&
 nsIn K mainGlobals "law" ==some (some (.ref (c5 74)))&&(List.range 20).all λf=>Nat.blt f 8||Jw K f
noncomputable def Pc:List Addr:=[3,87,115,150,407,239,299,77,105,133,350,21,55,56,57,58,59,60,61,62,70,76,83,84,86,104,111,112,114,132,140,146,147,149,160,161,167,168,174,175,181,182,188,189,195,196,202,203,209,210,216,217,223,224,230,231,237,238,240,241,242,243,244,245,246,247,248,249,250,251,252,253,254,255,257,258,259,260,261,262,263,264,265,266,268,269,270,271,272,273,274,275,276,277,278,279,280,281,283,284,285,286,287,288,289,290,291,297,298,307,308,314,315,321,322,328,329,335,336,349,356,357,363,364,368,369,375,376,382,383,389,390,396,397,403,404,406,412,413,419,420,421,422,423,429,430,436,437,443,444,448,449,455,456,462,463,469,470,474,475,481,482,488,489,495,496,502,503,509,510,516,517,523,524,525,526,527,528,529,530,531,532,533,537,538,544,545,549,550,556,557,561,562,568,569,575,576,577,583,584,590,591,597,598,604,605,611,612,618,619,625,626,632,633,637,638,644,645,651,652,656,657,661,662,666,667,671,672,676,677,681,682]
def fragOf(g:Addr->Option Obj):Frag:=Pc.map λa=>(a,(g a).getD default)
abbrev Obs:=Bool×List (List Int)×List (Option FD)
def Ah(g:Addr->Option Obj):Obs:=((Pc.all λa=>(g a).isSome)&&allB (fragOf g),kf.map (Pb (fragOf g)),(List.range 75).map λf=>rP (fragOf g) (Js f))
def val(w:World):Obs:=(true,kf.map (λp=>keysOf w.params p.2),(List.range 75).map λf=>some (rQ f))
end Mine
namespace Mine
open List PySem PySem.W PyProof.Rows PySem.Calls PySem.Challenge PySem.W.Fast
def jF:Program:=view pw [83]
def xx:List Str:=(pw.main.body.take 83).flatMap bindsAtTop
noncomputable def Sx(l:List Obj):BT×Nat:=l.foldl (λx o=>(x.1.ins x.2 o,x.2+1)) (.nil,0)
noncomputable def toT(s:Shared):SharedT:=⟨(Sx s.heap.objs.toList).1,(Sx s.heap.objs.toList).2,s.heap.life,s.gens,s.drawn,s.toks,s.os⟩
noncomputable def Ff(st:(Code->Sem Fin)->Program->World->SharedT->Thread->Option (SharedT×Thread))(ok:Nat->Option Value->Thread->Bool)(den:Code->Sem Fin)(w:World)(xy:Nat)(ann:Option Value):Nat->SharedT->Thread->Option SharedT
 |0,_,_=>none
 |n+1,s,t=>match through t with
  |true=>some s
  |false=>match ok xy ann t with
   |false=>none
   |true=>match st den pw w s t with
    |some (s',t')=>Ff st ok den w xy ann n s' t'
    |none=>none
theorem Ai{tb}{w:World}{xy:Nat}{ann:Option Value}:∀(n:Nat)(s s':SharedT)(t:Thread),Ff stepT stepOk (denote tb) w xy ann n s t=some s'->topRun tb pw w xy ann n s.abs t=some s'.abs
 |0,_,_,_,h=>by cases h
 |n+1,s,s',t,h=>by
  dsimp only[Ff]at h;unfold topRun;cases ht:through t with
  |true=>rw[ht]at h;cases h;rfl
  |false=>
   rw[ht]at h;cases hk:stepOk xy ann t with
   |false=>rw[hk]at h;cases h
   |true=>
    rw[hk]at h;cases hs:stepT (denote tb) pw w s t with
    |none=>rw[hs]at h;cases h
    |some r=>obtain⟨s2,t2⟩:=r;rw[hs]at h;rw[stepT_spec hs];exact Ai n s2 s' t2 h
noncomputable def Fg(w:World):Option Shared:=(tw10274390034422433532 tw14364793385576792824 (opening pw) w 12034 (tw1435165496053646825 (opening pw)).1 (tw1435165496053646825 (opening pw)).2).bind (tw14289696077712309145 pw)
def Xb(w:World):Fg w=fencedOpening treeTable pw w 12034:=by
 unfold Fg fencedOpening;rw[<-te10274390034422433532,<-te14364793385576792824,<-te1435165496053646825,<-te14289696077712309145]
@[irreducible] noncomputable def S0(w:World):SharedT:=toT ((Fg w).getD (start pw).1)
def Jx(w:World):Fg w=some (S0 w).abs:=by kernel_rfl
def Xt(s:Shared):Bool:=xlAt jF [] s&&recOk (RowW.records rw_nu0280_01.row.toRowW) s
noncomputable def Jy(s:SharedT)(a:Addr):Option Obj:=match Nat.blt a s.n with
 |false=>none
 |true=>match s.tree.get a with
  |some o=>alive o
  |none=>s.abs.heap.get? a
@[irreducible] noncomputable def ux(w:World):=(Ff tw10156331382660048174 tw6613529449190102663 (tw11892475500146522536 tw14364793385576792824) w (S0 w).n ((S0 w).abs.heap.nsMap mainGlobals "__annotations__") 12034 (S0 w) (topStub pw)).map λs=>
 (((S0 w).abs.heap.isNs mainGlobals&&(S0 w).gens.size==0,staticsOk (importedModules pw.main.body) (S0 w).abs.heap s.abs.heap&&namesBound pw s.abs.heap&&gensDone s.abs&&laidKept (S0 w).abs.heap s.abs.heap),tw4187177175401517315 jF xx (importedModules pw.main.body) Xt true s.abs,Ah (Jy s))
def Pd(w:World):ux (w.withFollow "special-get-raises" false)=some ((true,true),openGood jF xx,val (w.withFollow "special-get-raises" false)):=by kernel_rfl
def Pe(w:World):ux (w.withFollow "special-get-raises" true)=some ((true,true),openGood jF xx,val (w.withFollow "special-get-raises" true)):=by kernel_rfl
end Mine
namespace Mine
open List PySem
abbrev run:=nu fns
def cd(h:C f args J Q):call C f args J Q:=by unfold call;exact .inl h
def cz(e:args.map (nD J)=CO)(E:args.foldl nk J=bH)(h:C f CO bH Q):call C f args J Q:=by subst e E;unfold call;exact .inr h
def Jz(a:gi fns f=some ⟨n,ds,nv,.fn b⟩)(H:frame ⟨n,ds,nv,.fn b⟩ (args.map some)=some af)(c:f9 args)(h:b (run d) af [] (eN (rN J Q))):run (d+1) f args J Q:=by
 show(match gi fns f with|some e=>nG (nu fns d) e args J Q|none=>False);refine rX a ?_;unfold nG;refine .inr (.inl ⟨c,?_⟩);show(match frame ⟨n,ds,nv,.fn b⟩ (args.map some)with|some af=>b (run d) af [] (eN (rN J Q))|none=>False);exact rX H h
def fr(a:gi fns f=some ⟨n,ds,nv,.fn b⟩)(H:frame ⟨n,ds,nv,.fn b⟩ (args.map some)=some af)(c:f9 args)(h:b (run d) af [] (eN (rN J Q))):call (run (d+1)) f args J Q:=cd (Jz a H c h)
def c1r{iE:List MV}(a:J[i]?=some (.list c))(e:f9 c)(g:args=iE.map (xj i))(j:∀v∈iE,u7 v)(k:gi fns f=some ⟨n,ds,nv,.fn b⟩)(H:frame ⟨n,ds,nv,.fn b⟩ (iE.map some)=some af)(h:b (run d) af [.list c] (eN (u6 J i Q))):call (run (d+1)) f args J Q:=by
 refine cd ?_;show(match gi fns f with|some l=>nG (nu fns d) l args J Q|none=>False);refine rX k ?_;unfold nG;refine .inr (.inr ⟨i,c,iE,a,e,g,j,?_⟩);show(match frame ⟨n,ds,nv,.fn b⟩ (iE.map some)with|some af=>b (run d) af [.list c] (eN (u6 J i Q))|none=>False);exact rX H h
def dr(a:gi fns f=some ⟨n,ds,nv,.fn b⟩)(H:frame ⟨n,ds,nv,.fn b⟩ (args.map some)=some af)(h:b (run d) af J (eN (fin J Q))):call (run (d+1)) f args J Q:=by
 unfold call;refine .inl ?_;show(match gi fns f with|some c=>nG (nu fns d) c args J Q|none=>False);refine rX a ?_;unfold nG;refine .inl ?_;show(match frame ⟨n,ds,nv,.fn b⟩ (args.map some)with|some af=>b (run d) af J (eN (fin J Q))|none=>False);exact rX H h
def cl(a:gi fns f=some ⟨n,ds,nv,.cls c Pf⟩)(H:frame ⟨n,ds,nv,.cls c Pf⟩ (none::args.map some)=some af)(h:eL (Pf (run d)) af J λl cx=>fin J Q (.obj c l) cx):call (run (d+1)) f args J Q:=by
 unfold call;refine .inl ?_;show(match gi fns f with|some b=>nG (nu fns d) b args J Q|none=>False);refine rX a ?_;unfold nG;refine .inl ?_;show(match frame ⟨n,ds,nv,.cls c Pf⟩ (none::args.map some)with|some af=>eL (Pf (run d)) af J λl cx=>fin J Q (.obj c l) cx|none=>False);exact rX H h
section
variable{α:Type}
def aY(H:l.length<=cL)(h:Q (.lst J.length) (J++[.list l])):newList l J Q:=by with_unfolding_all exact⟨H,h⟩
def f'(e:J[a]?=some (.list l))(h:Q l J):dh a J Q:=by with_unfolding_all exact⟨l,e,h⟩
def fQ(e:x=some a)(h:Q a J):ask x J Q:=by with_unfolding_all exact⟨a,e,h⟩
def fR(H:c)(h:m J Q):ke c m J Q:=by with_unfolding_all exact⟨H,h⟩
def qe{n:Int}(k:Nat){Q:Nat->MH->Prop}(e:n=k)(h:Q k J):ER n J Q:=by with_unfolding_all exact⟨k,e,h⟩
def aT{k:Nat}(e:J[a]?=some (.list l))(b:i= .int k)(H:l[k]?=some v)(h:Q v J):f6 (.lst a) i J Q:=by subst b;with_unfolding_all exact⟨l,e,k,(cu H),.inl rfl,v,H,h⟩
def cV{k:Nat}(a:i= .int k)(H:l[k]?=some v)(h:Q v J):f6 (.aQ l) i J Q:=by subst a;with_unfolding_all exact⟨k,(cu H),.inl rfl,v,H,h⟩
def ja{k:Nat}(e:J[a]?=some (.list l))(H:i= .int k)(b:k<l.length)(c:l.length<=cL)(E:l.set k v=l')(h:Q () (J.set a (.list l'))):gJ (.lst a) i v J Q:=by subst H E;with_unfolding_all exact⟨l,e,k,b,.inl rfl,by refine rX length_set ?_;exact c,h⟩
def iH(e:J[a]?=some (.list l))(H:l.length<cL)(E:l++[v]=l')(h:Q .none (J.set a (.list l'))):eG .append (.lst a) [v] J Q:=by subst E;with_unfolding_all exact⟨l,e,by refine rX c9 ?_;exact H,h⟩
def dz(e:J[a]?=some (.list l))(h:Q () J):kY .append (.lst a) J Q:=by with_unfolding_all exact⟨l,e,h⟩
def hZ(e:J[a]?=some (.list l))(h:Q () J):kY .extend (.lst a) J Q:=by with_unfolding_all exact⟨l,e,h⟩
def CP(e:J[a]?=some (.list l))(h:Q () J):kY .pop (.lst a) J Q:=by with_unfolding_all exact⟨l,e,h⟩
def ed(e:J[a]?=some (.list l))(h:Q (.int l.length) J):builtin .len [.lst a] J Q:=by with_unfolding_all exact⟨l,e,h⟩
abbrev It(w:Wk)(xs:List MV)(J:MH):Prop:=w.len=xs.length/\(∀i x (Q:MV->MH->Prop),xs[i]?=some x->Q x J->w.item i J Q)/\∀Q:Unit->MH->Prop,Q () J->w.lC J Q
def It.vals(xs:List MV):It (.plain (.vals xs)) xs J:=by with_unfolding_all exact⟨rfl,λZ x Z e h=>⟨x,e,h⟩,λZ h=>h⟩
def It.live(e:J[a]?=some (.list xs)):It (.plain (.live a xs.length)) xs J:=by with_unfolding_all exact⟨rfl,λZ x Z E h=>⟨xs,e,rfl,x,E,h⟩,λZ h=>⟨xs,e,rfl,h⟩⟩
def d7{β:Type}{f:β->MV}{l:List β}(L:List β->X->Loc)(H:List β->X->MH)(x0:X)(b:∀p x,It w (l.map f) (H p x))
  (d:∀p r t x (P:Loc->MH->Prop),l=p++r::t->(∀a,P (L (p++[r]) a) (H (p++[r]) a))->jP (L p x) (f r) tg (H p x) λaf J=>body af J (kFor K P))
  (h:af=L [] x0)(c:J=H [] x0)(g:∀x,K .next (L l x) (H l x)):kp w tg body w.len 0 af J K:=by
 have k:∀t p x,l=p++t->forR w tg body t.length p.length (L p x) (H p x) K:=by
  intro t;induction t with
  |nil=>intro p x e;rw[append_nil]at e;subst e;exact(b _ _).2.2 _ (g x)
  |cons r t i=>
   intro p x e;refine(b _ _).2.1 p.length (f r) _ (by refine rX e ?_;refine rX hW ?_;refine rX (List.getElem?_append_right di) ?_;rw[Nat.sub_self];rfl) (d p r t x _ e λa=>?_);have:=i (p++[r]) a (by refine rX e ?_;rw[append_assoc];rfl);rw[c9]at this;exact this
 subst h c;unfold kp;refine rX ((b [] x0).1) ?_;exact rX cX (k l [] x0 rfl)
def oY{β:Type}{f:β->MV}{l:List β}(g:β->Option MV)(H:It w (l.map f) J)
  (c:∀r∈l,∀R:Option MV->MH->Prop,R (g r) J->jP af (f r) tg J λa J=>ok a J λb J=>pG b (elt a J λv J=>R (some v) J) (R none J))(h:Q (l.filterMap g) J):mJ w tg ok elt af w.len 0 J Q:=by
 have k:∀t p (Q:List MV->MH->Prop),l=p++t->Q (t.filterMap g) J->jC w tg ok elt af t.length p.length J Q:=by
  intro t;induction t with
  |nil=>intro p Q _ h;exact H.2.2 _ h
  |cons r t d=>
   intro p Q e h;refine H.2.1 p.length (f r) _ (by refine rX e ?_;refine rX hW ?_;refine rX (List.getElem?_append_right di) ?_;rw[Nat.sub_self];rfl) ?_;have i:=λQ h=>d (p++[r]) Q (by refine rX e ?_;rw[append_assoc];rfl) h;have i:=c9▸i;refine c r (by refine rX e ?_;simp) (λo J=>match o with|some v=>jC w tg ok elt af t.length (p.length+1) J (uY v Q)|none=>jC w tg ok elt af t.length (p.length+1) J Q) ?_;have h:=filterMap_cons▸h;cases e:g r with
   |none=>have h:=e▸h;exact i Q h
   |some v=>rw[e]at h;exact i (uY v Q) h
 unfold mJ;refine rX H.1 ?_;exact rX cX (k l [] Q rfl h)
def comp_map{β:Type}{f:β->MV}{l:List β}(g:β->MV)(H:It w (l.map f) J)
  (b:∀r∈l,∀R:MV->MH->Prop,R (g r) J->jP af (f r) tg J λa J=>elt a J R)(h:Q (l.map g) J):mJ w tg (Cj []) elt af w.len 0 J Q:=
 oY (λr=>some (g r)) H (λr c S d=>b r c (λv J=>S (some v) J) d) (rX filterMap_eq_map' h)
end
def nn{P:Prop}(h:none=some a):P:=nomatch h
def ft{P:Prop}(h:false=true):P:=nomatch h
def tf{P:Prop}(h:true=false):P:=nomatch h
def kd{G:Prop}(h:P)(e:P=G):G:=e▸h
def d0(h:Q v J)(H:pure v):rN J Q v cx:=⟨v,.pure H,h⟩
inductive Vl[Inhabited Unit]|none|tt|ff|i0|i5|s|i9|main
noncomputable def Vl.ctorIdx[Inhabited Unit](x:Vl):Nat:=x.casesOn 0 1 2 3 4 5 6 7
def Vl.mv:Vl->MV
 | .none=>.none
 | .tt=>.bool true
 | .ff=>.bool false
 | .i0=>.int 0
 | .i5=>.int 5
 | .i9=>.int 9
 | .s=>.str Cq
 | .main=>.str ur
inductive O
 |push (v:Vl)|self|aL (k:Nat)|a8 (k:Nat)|iQ (g:Bool)|gN (g:Bool)|send (abo:Bool)
 |pop|dup|swap|aM (t:Nat)|br (b:Bool) (t:Nat)|leave|eO|again
noncomputable def O.ctorIdx(x:O):Nat:=x.casesOn (λ_=>0) 1 (λ_=>2) (λ_=>3) (λ_=>4) (λ_=>5) (λ_=>6) 7 8 9 (λ_=>10) (λ_ _=>11) 12 13 14
structure R where
 o:O
 g:Nat
def la(g:Bool):Str:=match g with|true=>EV|false=>yB
def O.name(o:O):Str:=match o with
 | .push _=>c_
 | .self=>cE
 | .aL _=>dP
 | .a8 _=>dQ
 | .iQ _=>iv
 | .gN _=>gM
 | .send _=>jQ
 | .pop=>e7
 | .dup=>fA
 | .swap=>el
 | .aM _=>cv
 | .br b _=>(match b with|true=>cy|false=>bB)
 | .leave=>f_
 | .eO=>kN
 | .again=>il
def ones:List Str:=[c_,cE,dP,dQ,iv,gM,jQ,e7,fA,el,cv,cy,bB,f_,kN,il]
noncomputable def O.kd(o:O):Nat:=match o with
 | .push _=>0
 | .self=>1
 | .aL _=>2
 | .a8 _=>3
 | .iQ _=>4
 | .gN _=>5
 | .send _=>6
 | .pop=>7
 | .dup=>8
 | .swap=>9
 | .aM _=>10
 | .br _ _=>11
 | .leave=>13
 | .eO=>14
 | .again=>15
def O.nr(o:O):Nat:=match o with
 | .br b _=>(match b with|true=>11|false=>12)
 |o=>o.kd
def Aj(o:O):ones[o.nr]?=some o.name:=by cases o with|br b t=>cases b<;>rfl|_=>rfl
noncomputable def aw(l:List Nat)(n:Nat):Bool:=match l with|[]=>false|x::r=>match Nat.beq x n with|true=>true|false=>aw r n
noncomputable def CQ(f:Str->Bool)(l:List Nat):List Str->Nat->Bool
 |[],_=>true
 |s::r,i=>(match f s with|true=>aw l i|false=>!aw l i)&&CQ f l r (i+1)
theorem Ak:∀{L:List Str}{k i:Nat},CQ f l L k=true->L[i]?=some s->f s=aw l (k+i)
 |x::L,k,0,h,e=>by
  cases e;have h:=(aA h).1;cases e:f s<;>rw[e]at h
  ·exact(Bool.not_inj (h.trans rfl:(!aw l k)=(!false))).symm
  ·exact h.symm
 |x::L,k,i+1,h,e=>rX (show k+(i+1)=(k+1)+i by exact Eq.symm (cF k i)) (Ak (aA h).2 e)
def Xc(o:O):o.nr=o.kd\/(o.nr=12/\o.kd=11):=by cases o with|br b t=>cases b;exact .inr ⟨rfl,rfl⟩;exact .inl rfl|_=>exact .inl rfl
def lV(f:Str->Bool)(l:List Nat)(h:(CQ f l ones 0&&Bool.xor (aw l 11) (!aw l 12))=true)(o:O):f o.name=aw l o.kd:=by
 have:=Ak (aA h).1 (Aj o);rw[aD]at this;obtain e|⟨E,a⟩:=Xc o
 ·exact rX this (rX e rfl)
 ·refine rX this (rX E (rX a ?_));have H:=(aA h).2;revert H;cases aw l 11<;>cases aw l 12<;>intro H<;>first|rfl|exact ft H
def vk(b:Bool):Str:=match b with|true=>uq|false=>yA
def O.a(o:O):MV:=match o with
 | .push v=>v.mv
 | .aL _| .a8 _=>.int 0
 | .iQ g| .gN g=>.str (la g)
 | .send b=>.str (vk b)
 | .aM t=>.int t
 | .br _ t=>.int t
 |_=>.none
noncomputable def O.b(o:O):MV:=match o with
 | .aL k| .a8 k=>.int k
 | .send _=>.int 1
 |_=>.none
def O.c(o:O):MV:=match o with
 | .send _=>.tup [.str cE,.none]
 |_=>.none
def R.mv(r:R):MV:=.obj 0 [.str r.o.name,r.o.a,r.o.b,r.o.c,.int 1]
noncomputable def Vl.truth:Vl->Bool| .none=>false| .ff=>false|_=>true
def nz(x:Vl):pure x.mv:=by cases x<;>exact ai
def kh(r:R):pure r.mv:=by
 obtain⟨o,g⟩:=r;cases o with
 |push x=>exact⟨ai,nz x,ai,ai,ai,ai⟩
 |send x=>exact⟨ai,ai,ai,⟨ai,ai,ai⟩,ai,ai⟩
 |_=>exact⟨ai,ai,ai,ai,ai,ai⟩
def s37(x:Vl)(h:Q (.bool x.truth) J):call (run (d+1)) 37 [x.mv] J Q:=by
 refine fr rfl rfl ⟨nz x,ai⟩ ?_;exact kd (d0 (cx:=[]) h ai) (by cases x<;>kernel_rfl)
noncomputable def O.bo(o:O):Option Nat:=match o with
 | .aM t=>some t
 | .br _ t=>some t
 |_=>none
def O.hJ(o:O):Bool:=o.bo.isSome
structure Ct where
 tv:Bool
 first:Nat
 last:Nat
 target:Nat
def Ct.sort(k:Ct):Str:=match k.tv with|true=>l_|false=>ma
def Ct.mv(k:Ct):MV:=.obj 1 [.str k.sort,.int k.first,.int k.last,.int k.target,.int 0]
structure PC where
 rows:List R
 ax:List Ct
 starts:List Nat
 ns:Nat
noncomputable def er(n:Nat):MV:=.int n
def qf(n:Nat):MV:=.str (TQ++Str.ofString (toString n))
def PC.mv(c:PC):MV:=.obj 2 [.str jD,.str pH,.none,.aQ ((List.range c.ns).map qf),.aQ (c.rows.map R.mv),.aQ (c.ax.map Ct.mv),.aQ [],.aQ (c.starts.map er),.none]
def eU{f:α->MV}(h:∀x,pure (f x)):∀l:List α,f9 (l.map f):=by
 intro m;induction m with
 |nil=>exact ai
 |cons x l i=>exact⟨h x,i⟩
def dB(c:PC):pure c.mv:=⟨ai,ai,ai,eU (f:=qf) (λZ=>ai) _,eU kh _,eU (f:=Ct.mv) (λZ=>⟨ai,ai,ai,ai,ai,ai⟩) _,ai,eU (f:=er) (λZ=>ai) _,ai,ai⟩
def O.bZ(o:O):Bool:=aw [10,13,15] o.kd
structure Ok(c:PC):Prop where
 t:∀r∈c.rows,∀t,r.o.bo=some t->t<c.rows.length
 k:∀k∈c.ax,k.first<k.last/\k.last<=c.rows.length/\k.target<c.rows.length
 s:∀s∈c.starts,s<c.rows.length
 n:c.rows.length<=300
 kn:c.ax.length<=100
 sn:c.starts.length<=10
 s0:c.starts≠[]
 e:∀p r,c.rows[p]?=some r->p+1=c.rows.length->r.o.bZ=true
noncomputable def g0(n:Nat)(f:Nat->Bool):List MV:=(List.range n).map λp=>.bool (f p)
def iR(n f):(g0 n f).length=n:=by simp[g0]
def oZ(n:Nat)(f:Nat->Bool)(t:Nat):(g0 n f).set t (.bool true)=g0 n (λp=>f p||t==p):=by
 unfold g0;apply ext_getElem (by simp);intro i H a;simp only[getElem_set,getElem_map,getElem_range];by_cases h:t=i
 ·exact rX (aO h) (congrArg _ (by simp[h]))
 ·exact rX (bc h) (congrArg _ (by simp[h]))
def xA(n:Nat):List.replicate n (MV.bool false)=g0 n λZ=>false:=by
 unfold g0;apply ext_getElem (by simp);intro i h H;simp
def ew(h:p<n):(g0 n f)[p]?=some (.bool (f p)):=by
 unfold g0;simp[h]
def marked(c:PC)(p:Nat):Bool:=c.rows.any (λr=>r.o.bo==some p)||c.ax.any (λk=>k.target==p)||c.starts.any (· ==p)
def O.js(o:O):(o.hJ=false/\o.bo=none)\/∃t:Nat,o.hJ=true/\o.bo=some t/\o.a= .int t:=by
 cases o<;>first|exact .inl ⟨rfl,rfl⟩|exact .inr ⟨_,rfl,rfl,rfl⟩
def dR(h:n<=1000):n<=cL:=bt h (by decide)
def ml{l:List α}(h:l.length<=n):(l.map f).length<=n:=rX cX h
def cg{P:Loc->MH->Prop}(h:P af [c,.list a])(e:b=a):P af [c,.list b]:=e▸h
def g6:∀{l:List MV},f9 l->kZ J n l l:=by
 intro m;induction m with
 |nil=>exact λZ=>.nil
 |cons _ _ i=>exact λh=>.cons (.pure h.1) (i h.2)
def vm(o:O)(Q:Bool->MH->Prop)(h:Q o.hJ J):contains (.str o.name) i8 J Q:=by with_unfolding_all exact .inl ⟨_,[cv,cy,bB,k8],rfl,rfl,(show c7 o.name _=o.hJ by cases o with|br b t=>cases b<;>kernel_rfl|_=>kernel_rfl)▸h⟩
def s38(b:Ok c)(h:Q (.aQ (g0 (c.rows.length+1) (marked c))) J):call (run (d+1)) 38 [c.mv] J Q:=by
 have i:=b.n;refine fr (af:=[some c.mv,none,none,none,none]) rfl rfl ⟨dB c,ai⟩ ?_;refine aY (by decide) (f' rfl (qe (c.rows.length+1) (by simp) (aY (rX length_replicate (dR (et 0x12c25113e82115010 rfl i))) ?_)));refine d7 (λZ o=>[some c.mv,some (.lst 1),o,none,none]) (λp Z=>[.list [.bool false],.list (g0 (c.rows.length+1) λq=>p.any λr=>r.o.bo==some q)]) none (λZ Z=>.vals _) (λp r t o P e H=>vm r.o _ ?_) rfl (by rw[xA];rfl) λo=>?_
 ·obtain⟨l,g⟩|⟨j,l,g,m⟩:=r.o.js<;>unfold uZ<;>refine rX l ?_
  ·exact cg (H _) (by simp[g])
  ·exact ja rfl m (by rw[iR];have:=b.t r (by simp[e]) j g;exact ln2 6945517208849 rfl this) (by rw[iR];exact dR (et 0x12c25113e82115010 rfl i)) (by rw[oZ];simp[g]) (H _)
 refine d7 (λZ (o':Option MV)=>[some c.mv,some (.lst 1),o,o',none]) (λp Z=>[.list [.bool false],.list (g0 (c.rows.length+1) λq=>c.rows.any (λr=>r.o.bo==some q)||p.any λk=>k.target==q)]) none (λZ Z=>.vals _) (λp r t o' P e H=>?_) rfl (by simp) λo'=>?_
 ·exact ja rfl rfl (by rw[iR];have:=(b.k r (by simp[e])).2.2;exact Nat.lt_add_right 1 this) (by rw[iR];exact dR (et 0x12c25113e82115010 rfl i)) (by rw[oZ];simp[Bool.or_assoc]) (H _)
 refine d7 (λZ (a:Option MV)=>[some c.mv,some (.lst 1),o,o',a]) (λp Z=>[.list [.bool false],.list (g0 (c.rows.length+1) λq=>c.rows.any (λr=>r.o.bo==some q)||c.ax.any (λk=>k.target==q)||p.any (· ==q))]) none (λZ Z=>.vals _) (λp r t o' P e H=>?_) rfl (by simp) λa=>?_
 ·exact ja rfl rfl (by rw[iR];have:=b.s r (by simp[e]);exact ln2 6945517208849 rfl this) (by rw[iR];exact dR (et 0x12c25113e82115010 rfl i)) (by rw[oZ];simp[Bool.or_assoc]) (H _)
 exact Exists.intro _ ⟨.lst aZ rfl (g6 (eU (f:=λp=>MV.bool _) (λZ=>ai) _)),h⟩
noncomputable def O.cC(o:O)(t:Nat):O:=match o with
 | .aM _=>.aM t
 | .br b _=>.br b t
 |o=>o
def R.cC(r:R)(t:Nat):R:=⟨r.o.cC t,r.g⟩
def gj(x:Option R):MV:=match x with|some r=>r.mv|none=>.none
noncomputable def aK(o:List (Option R))(p:Nat):Nat:=((o.take p).filterMap id).length
def qU(o:List (Option R))(i:Nat):List MV:=(List.range i).map λ(p:Nat)=>MV.int (aK o p)
def xB(o i):qU o (i+1)=qU o i++[.int (aK o i)]:=by simp[qU,range_succ]
def JA(h:p<n):(qU o n)[p]?=some (.int (aK o p)):=by simp[qU,h]
def Al(o n):(qU o n).length=n:=by simp[qU]
def JB(p t:List (Option R))(h:i<=p.length):aK (p++t) i=aK p i:=by rw[aK,aK,take_append_of_le_length h]
def JC(p t:List (Option R))(h:i<=p.length+1):qU (p++t) i=qU p i:=map_congr_left λj H=>rX (JB p t (by have:=mem_range.1 H;exact bX 0x751211607116510 rfl h this)) rfl
def cA(o:List (Option R))(r:R):R:=r.cC (aK o (r.o.bo.getD 0))
def d8(o:List (Option R))(k:Ct):Option Ct:=if aK o k.first<aK o k.last then some ⟨k.tv,aK o k.first,aK o k.last,aK o k.target⟩else none
def ay(c:PC)(o:List (Option R)):PC:=
 ⟨(o.filterMap id).map (cA o),c.ax.filterMap (d8 o),c.starts.map (aK o),c.ns⟩
def s2(r:R)(t:Nat)(H:r.o.hJ=true)(h:Q (r.cC t).mv J):call (run (d+2)) 2 [r.mv,.int t] J Q:=by
 refine dr rfl rfl (cl rfl rfl (.inl (.inl ?_)));obtain⟨o,g⟩:=r;cases o<;>first|exact h|exact ft (H)
def iT{Q:Prop}(e:b=true)(h:P):pG b P Q:=e▸h
def iF{Q:Prop}(e:b=false)(h:Q):pG b P Q:=e▸h
def cH{P:Loc->MH->Prop}(h:P af a)(e:a=b):P af b:=e▸h
def s3(s a b t e:MV)(h:Q (.obj 1 [s,a,b,t,e]) J):call (run (d+1)) 3 [s,a,b,t,e] J Q:=cl rfl rfl (.inl h)
def s7(c:PC)(r k s h:MV)(H:Q (.obj 2 [.str jD,.str pH,.none,.aQ ((List.range c.ns).map qf),r,k,h,s,.none]) J):call (run (d+2)) 7 [c.mv,r,k,s,h] J Q:=
 dr rfl rfl (cl rfl rfl (.inl (.inl H)))
def Pg(b:Ok c)(m:o.length=c.rows.length)(B:∀r,some r∈o->∀t,r.o.bo=some t->t<=c.rows.length)(h:Q (ay c o).mv J):run (d+3) 39 [c.mv,.aQ (o.map gj)] J Q:=by
 refine I λC=>?_;have z:=b.n;have H:(o.filterMap id).length<=300:=bt (length_filterMap_le _ _) (ln2 0x12c2611651312c2510 rfl m z);have pl:∀p,p<=c.rows.length->(qU o (o.length+1))[p]?=some (.int (aK o p)):=λp D=>JA (bX 0x751176141160511 rfl m D);refine C (Jz rfl rfl ⟨dB c,eU (λx=>by cases x with|none=>exact ai|some r=>exact kh _) _,ai⟩ ?_);refine aY (by decide) (aY (by decide) ?_);refine d7 (λZ x=>[some c.mv,some (.aQ (o.map gj)),some (.lst 0),some (.lst 1),x,none,none,none,none,none]) (λp Z=>[.list (qU p p.length),.list ((p.filterMap id).map R.mv)]) none (λZ Z=>.vals _) (λp r t x P e i=>?_) rfl rfl λx=>?_
 ·have T:(p.filterMap id).length=aK p p.length:=by rw[aK,take_length]
  have l:p.length<=300:=by have:=congrArg List.length e;simp at this;exact gf 0x11805061412c2711761312c2510 rfl m z this
  have H:(p.filterMap id).length<=300:=bt (length_filterMap_le _ _) l;refine dz rfl (ed rfl (iH rfl (by rw[Al];exact iC l (by decide)) (l':=qU (p++[r]) (p++[r]).length) ?_ ?_))
  ·refine rX cX ?_;refine rX T ?_;rw[<-xB];refine rX c9 ?_;exact(JC p [r] di).symm
  cases r with
  |none=>exact cH (i _) (by simp)
  |some r=>exact dz rfl (iH rfl (rX cX (iC H (by decide))) (by simp;rfl) (i _))
 refine dz rfl (ed rfl (iH rfl (by rw[Al];exact iC (by exact ln2 0x12c2611651312c2510 rfl m z:o.length<=300) (by decide)) (l':=qU o (o.length+1)) (by rw[xB,cX,aK,take_length]) ?_));refine f' rfl (comp_map (λr=>(cA o r).mv) (.live rfl) (λr E S u=>vm r.o _ ?_) (aY ?_ ?_))
 ·obtain⟨a,L,rfl⟩:=mem_filterMap.1 E;obtain⟨v,A⟩|⟨j,v,A,N⟩:=r.o.js<;>unfold uZ<;>refine rX v ?_
  ·have:cA o r=r:=by obtain⟨q,g⟩:=r;cases q<;>first|rfl|exact tf (v)
   exact this▸u
  ·refine aT rfl N (pl j (B r L j A)) (s2 r _ v ?_);have:cA o r=r.cC (aK o j):=by rw[cA];refine rX A ?_;rfl
   exact this▸u
 ·exact rX cX (dR (av H))
 refine aY (by decide) ?_;refine d7 (λZ y=>[some c.mv,some (.aQ (o.map gj)),some (.lst 0),some (.lst 2),x,some (.lst 3),y.1,y.2.1,y.2.2,none]) (λp Z=>[.list (qU o (o.length+1)),.list ((o.filterMap id).map R.mv),.list ((ay c o).rows.map R.mv),.list ((p.filterMap (d8 o)).map Ct.mv)]) (none,none,none) (λZ Z=>.vals _) (λp r t y P e i=>?_) rfl (by simp[ay];rfl) λy=>?_
 ·have w:=b.k r (by simp[e]);have V:(p.filterMap (d8 o)).length<=300:=bt (length_filterMap_le _ _) (by have:=congrArg List.length e;have:=b.kn;simp at*;lia);refine aT rfl rfl (pl _ (bt (a_ w.1) w.2.1)) (aT rfl rfl (pl _ w.2.1) ?_);by_cases h:aK o r.first<aK o r.last
  ·refine iT (bA (Int.ofNat_lt.2 h)) (dz rfl (aT rfl rfl (pl _ (a_ w.2.2)) (s3 _ _ _ _ _ (iH rfl (rX cX (iC V (by decide))) ?_ (i (_,_,_))))));simp[d8,h];rfl
  ·refine iF (decide_eq_false (mt Int.ofNat_lt.1 h)) (cH (i (_,_,_)) (by simp[d8,h]))
 refine comp_map (λs=>er (aK o s)) (.vals _) (λs G S u=>aT rfl rfl (pl s (a_ (b.s s G))) u) (aY ?_ (s7 _ _ _ _ _ ?_))
 ·exact rX cX (dR (by have:=b.sn;exact av this))
 refine⟨(ay c o).mv,.obj (.cons (.pure ai) (.cons (.pure ai) (.cons (.pure ai) (.cons (.pure (eU (f:=qf) (λZ=>ai) _)) (.cons (.lst aZ rfl (g6 (eU kh _))) (.cons (.lst aZ rfl (g6 (eU (f:=Ct.mv) (λZ=>⟨ai,ai,ai,ai,ai,ai⟩) _))) (.cons (.pure ai) (.cons ?_ (.cons (.pure ai) .nil))))))))),h⟩;refine .lst aZ rfl ?_;exact rX (show(ay c o).starts.map er=c.starts.map λs=>er (aK o s) from map_map) (g6 (eU (f:=λs=>er (aK o s)) (λZ=>ai) _))
def O.isPlain(o:O):Bool:=aw [0,1,2,4,8] o.kd
def O.d9(o:O):Bool:=aw [3,5] o.kd
def O.g7(o:O):Bool:=aw [11,12] o.kd
def O.isJ(o:O):Bool:=aw [10] o.kd
def O.ky(o:O):Bool:=aw [0] o.kd
def O.gn(o:O):Bool:=aw [7] o.kd
def O.fB(o:O):Bool:=aw [8] o.kd
def O.cY(o:O):Bool:=aw [9] o.kd
def O.g8(o:O):Bool:=aw [13] o.kd
noncomputable def O.Xd(o:O):Bool:=match o with| .br b _=>b|_=>false
noncomputable def O.pv(o:O):Option Vl:=match o with| .push v=>some v|_=>none
noncomputable def O.bq(o:O):Option (Bool×Nat):=match o with| .br b t=>some (b,t)|_=>none
noncomputable def O.jt(o:O):Option Nat:=match o with| .aM t=>some t|_=>none
def vn{o:O}(h:o.pv=some v):o=.push v:=by cases o with|push w=>exact congrArg _ (aj h)|_=>exact nn h
def gz{o:O}(h:o.bq=some (b,t)):o=.br b t:=by cases o with|br a u=>cases h;rfl|_=>exact nn h
def ip{o:O}(h:o.jt=some t):o=.aM t:=by cases o with|aM w=>exact congrArg _ (aj h)|_=>exact nn h
def CR(o:O):o.pv.isSome=o.ky:=by cases o<;>rfl
def nY(o:O):o.bq.isSome=o.g7:=by cases o<;>rfl
def nZ(o:O):o.jt.isSome=o.isJ:=by cases o<;>rfl
noncomputable def Am(o:List (Option R))(p:Nat)(t:O->Bool):Bool:=(o[p]?.join).any λr=>t r.o
def lb(h:o[p]?=some x)(t:O->Bool):Am o p t=x.any λr=>t r.o:=by rw[Am];refine rX h ?_;rfl
def Xe(x:Option R):pure (gj x):=by cases x with|none=>exact ai|some r=>exact kh r
def jb{Q:Bool->MH->Prop}(e:strsOf l=some ks)(h:Q (c7 k ks) J):contains (.str k) (.tup l) J Q:=by with_unfolding_all exact .inl ⟨k,ks,rfl,e,h⟩
abbrev Ops(l:List MV)(t:O->Bool):Prop:=f9 l/\∃k,strsOf l=some k/\∀o:O,c7 o.name k=t o
def ju(H:Ops l t)(h:Q (.bool (x.any λr=>t r.o)) J):call (run (d+1)) 36 [gj x,.tup l] J Q:=by
 refine fr (af:=[some (gj x),some (.tup l)]) rfl rfl ⟨Xe x,H.1,ai⟩ ?_;cases x with
 |none=>exact kd (d0 (cx:=[]) h ai) (by kernel_rfl)
 |some r=>
  obtain⟨k,e,H⟩:=H.2;exact jb e (d0 (by rw[H];exact h) ai)
def JD:Ops [.str c_,.str cE,.str dP,.str lG,.str iv,.str fA,.str fP] O.isPlain:=⟨⟨ai,ai,ai,ai,ai,ai,ai,ai⟩,_,rfl,λo=>lV (λs=>c7 s [c_,cE,dP,lG,iv,fA,fP]) _ (by kernel_rfl) o⟩
def G6:Ops [.str dQ,.str lH,.str gM,.str lI] O.d9:=⟨⟨ai,ai,ai,ai,ai⟩,_,rfl,λo=>lV (λs=>c7 s [dQ,lH,gM,lI]) _ (by kernel_rfl) o⟩
def kr:Ops [.str cy,.str bB] O.g7:=⟨⟨ai,ai,ai⟩,_,rfl,λo=>lV (λs=>c7 s [cy,bB]) _ (by kernel_rfl) o⟩
def JE:Ops [.str e7] O.gn:=⟨⟨ai,ai⟩,_,rfl,λo=>lV (λs=>c7 s [e7]) _ (by kernel_rfl) o⟩
def kz:Ops [.str c_] O.ky:=⟨⟨ai,ai⟩,_,rfl,λo=>lV (λs=>c7 s [c_]) _ (by kernel_rfl) o⟩
def JF:Ops [.str fA] O.fB:=⟨⟨ai,ai⟩,_,rfl,λo=>lV (λs=>c7 s [fA]) _ (by kernel_rfl) o⟩
def Fh:Ops [.str el] O.cY:=⟨⟨ai,ai⟩,_,rfl,λo=>lV (λs=>c7 s [el]) _ (by kernel_rfl) o⟩
def qV:Ops [.str cv] O.isJ:=⟨⟨ai,ai⟩,_,rfl,λo=>lV (λs=>c7 s [cv]) _ (by kernel_rfl) o⟩
noncomputable def walked(f:List (Option R)->Nat->List (Option R))(l:List (Option R))(i:Nat):List (Option R):=(List.range i).foldl f l
def kB(f l i):walked f l (i+1)=f (walked f l i) i:=by simp[walked,range_succ]
def An(f:List (Option R)->Nat->List (Option R)):Prop:=∀l p,(f l p).length=l.length
def n1(h:An f)(l i):(walked f l i).length=l.length:=by
 induction i with
 |zero=>rfl
 |succ i a=>rw[kB,h,a]
def lW(n:Nat)(o:List (Option R)):Prop:=∀r,some r∈o->∀t,r.o.bo=some t->t<=n
def lW.set(h:lW n o)(H:∀r,x=some r->∀t,r.o.bo=some t->t<=n):lW n (o.set p x):=λr a=>
 (mem_or_eq_of_mem_set a).elim (h r) λb=>H r b.symm
def lW.Ao(h:lW n o):lW n (o.set p none):=h.set λZ h=>nomatch h
def Ok.bo(o:Ok c):lW c.rows.length (c.rows.map some):=λr H t a=>by
 obtain⟨b,h,e⟩:=i4 H;exact a_ (o.t _ h t (aj e▸a))
def Local(m:Nat)(f:List (Option R)->Nat->List (Option R)):Prop:=∀l p j,p+m<j->(f l p)[j]?=l[j]?
def wY(h:Local m f)(l:List (Option R))(i j:Nat)(H:i+m<=j):(walked f l i)[j]?=l[j]?:=by
 induction i with
 |zero=>rfl
 |succ i a=>rw[kB,h _ _ _ (by exact bX 0x761150011765011 rfl H),a (bX 0x761150011765010 rfl H)]
def rng(e:List.range n=p++i::t):i=p.length/\i<n:=by
 have h:=congrArg (·[p.length]?) e;have H:=congrArg List.length e;simp at h H;rw[List.getElem?_range (by exact bX 306785320985873 rfl H)]at h;exact⟨(aj h).symm,by have:=aj h;lia⟩
def lX{n:Int}{k:Nat}{Q:Wk->MH->Prop}(e:n.toNat=k)(H:-cL<=n)(a:n<=cL)(h:Q (.plain (.vals (fE k))) J):uX .range [.int n] J Q:=by subst e;with_unfolding_all exact⟨⟨H,a⟩,h⟩
def qW{B:au->PS}{m:Nat}{X:Type}(g:X->Loc)(x0:X)(step:List (Option R)->Nat->List (Option R))(u:gi fns f=some ⟨1,[],nv,.fn b⟩)
  (H:frame ⟨1,[],nv,.fn b⟩ [some c.mv]=some (some c.mv::none::none::none::g x0))
  (v:b=λC=>sS (sU [.name 1,.name 2] (cj [df .list [ah (eV 0) 14],aq C 38 [eV 0]])) (sS (sF (.one 3) .range [aX .sub (df .len [eV 1]) (eC (.int m))] (B C)) (sR (aq C 39 [eV 0,eV 1]))))
  (r:An step)(a:Local m step)(w:∀o p,o.length=c.rows.length->p+m<c.rows.length->lW c.rows.length o->lW c.rows.length (step o p))
  (y:∀(o:List (Option R)) (i:Nat) (z:X) (K:QK) (P:Loc->MH->Prop),o.length=c.rows.length->i+m<c.rows.length->(∀j,i+m<=j->o[j]?=(c.rows.map some)[j]?)->
   (∀E,P (some c.mv::some (.lst 0)::some (.aQ (g0 (c.rows.length+1) (marked c)))::some (.int i)::g E) [.list ((step o i).map gj)])->
   B (run (d+3)) (some c.mv::some (.lst 0)::some (.aQ (g0 (c.rows.length+1) (marked c)))::some (.int i)::g z) [.list (o.map gj)] (kFor K P))
  (N:m<=2)(k:Ok c)(h:Q (ay c (walked step (c.rows.map some) (c.rows.length-m))).mv J):call (run (d+4)) f [c.mv] J Q:=by
 have G:=k.n;subst v;refine fr u H ⟨dB c,ai⟩ (aY (ml (bt G (by decide))) (s38 k ?_));have e:(((c.rows.map R.mv).length:Int)-(m:Int)).toNat=c.rows.length-m:=by exact rX cX (Int.toNat_sub c.rows.length m)
 have s:(cL:Int)=1000000:=rfl;refine f' rfl (lX e (by refine rX cX (rX s ?_);lia) (by refine rX cX (rX s ?_);lia) ?_)
 refine d7 (λZ x=>some c.mv::some (.lst 0)::some (.aQ (g0 (c.rows.length+1) (marked c)))::x.1::g x.2)
  (λp Z=>[.list ((walked step (c.rows.map some) p.length).map gj)]) (none,x0) (λZ Z=>.vals _) (λp i t x P e A=>?_) rfl (rX (show walked step (c.rows.map some) ([]:List Nat).length=c.rows.map some from rfl) (rX map_map rfl)) λx=>?_
 ·obtain⟨rfl,l⟩:=rng e;refine y _ p.length x.2 _ P (by rw[n1 r,cX]) (Nat.add_lt_of_lt_sub l) (λj D=>wY a _ _ _ D) λz=>?_;rw[<-kB step];have:=A (some (.int p.length),z);rw[c9]at this;exact this
 have:∀i,i<=c.rows.length-m->lW c.rows.length (walked step (c.rows.map some) i):=by
  intro i;induction i with
  |zero=>intro _;exact k.bo
  |succ i L=>intro l;rw[kB];exact w _ _ (by rw[n1 r,cX]) (Nat.add_lt_of_lt_sub l) (L (Nat.le_of_succ_le l))
 refine cz (rX length_range rfl) rfl (Pg k (by rw[n1 r,cX]) (this _ di) ?_);exact d0 h (dB _)
abbrev W2:=Nat->R->R->Option (Option R×Option R)
noncomputable def iq(w:W2)(o:List (Option R))(p:Nat)(x y:Option R):List (Option R):=match x with
 |some r=>(match y with
  |some s=>(match w p r s with|some a=>(o.set p a.1).set (p+1) a.2|none=>o)
  |none=>o)
 |none=>o
def jc(w:W2)(o:List (Option R))(p:Nat):List (Option R):=iq w o p o[p]?.join o[p+1]?.join
def kO(h:o[i]?=some x)(H:o[i+1]?=some y):jc w o i=iq w o i x y:=by rw[jc];refine rX h ?_;refine rX H ?_;rfl
def xC{o:List (Option R)}{p:Nat}(h:o[p]?.join=some r):o[p]?=some (some r):=by rwa[Option.join_eq_some_iff]at h
def yM(w:W2)(o p):jc w o p=o\/∃r s a,o[p]?=some (some r)/\o[p+1]?=some (some s)/\w p r s=some a/\jc w o p=(o.set p a.1).set (p+1) a.2:=by
 refine I λk=>?_;cases e:o[p]?.join with
 |none=>exact k (.inl (by rw[jc];refine rX e ?_;rfl))
 |some r=>cases E:o[p+1]?.join with
  |none=>exact k (.inl (by rw[jc];refine rX e ?_;refine rX E ?_;rfl))
  |some s=>cases h:w p r s with
   |none=>exact k (.inl (by rw[jc,e,E,iq,h]))
   |some a=>exact k (.inr ⟨r,s,a,xC e,xC E,h,by rw[jc,e,E,iq,h]⟩)
def Bd(a:X->Loc)(c:PC)(d:Nat)(B:au->PS)(o:List (Option R))(i:Nat)(o':List (Option R)):Prop:=∀(z:X) (K:QK) (P:Loc->MH->Prop),
 (∀b,P (some c.mv::some (.lst 0)::some (.aQ (g0 (c.rows.length+1) (marked c)))::some (.int i)::a b) [.list (o'.map gj)])->
 B (run (d+3)) (some c.mv::some (.lst 0)::some (.aQ (g0 (c.rows.length+1) (marked c)))::some (.int i)::a z) [.list (o.map gj)] (kFor K P)
def h6(w:W2)(c:PC):PC:=ay c (walked (jc w) (c.rows.map some) (c.rows.length-1))
def Fi{X:Type}(k:X->Loc)(x0:X)(w:W2)(u:gi fns f=some ⟨1,[],nv,.fn b⟩)
  (H:frame ⟨1,[],nv,.fn b⟩ [some c.mv]=some (some c.mv::none::none::none::k x0))
  (v:b=λC=>sS (sU [.name 1,.name 2] (cj [df .list [ah (eV 0) 14],aq C 38 [eV 0]])) (sS (sF (.one 3) .range [aX .sub (df .len [eV 1]) (eC (.int (1:Nat)))] (B C)) (sR (aq C 39 [eV 0,eV 1]))))
  (A:∀p r s a,p+1<c.rows.length->(∀t,r.o.bo=some t->t<=c.rows.length)->(∀t,s.o.bo=some t->t<=c.rows.length)->w p r s=some a->(∀q,a.1=some q->∀t,q.o.bo=some t->t<=c.rows.length)/\∀q,a.2=some q->∀t,q.o.bo=some t->t<=c.rows.length)
  (D:∀(o:List (Option R)) (i:Nat) (x y:Option R),o.length=c.rows.length->i+1<c.rows.length->o[i]?=some x->o[i+1]?=some y->(∀j,i+1<=j->o[j]?=(c.rows.map some)[j]?)->Bd k c d B o i (jc w o i))
  (E:Ok c)(h:Q (h6 w c).mv J):call (run (d+4)) f [c.mv] J Q:=by
 refine qW k x0 (jc w) u H v (λo p=>?_) (λo p j n=>?_) (λo p g G h=>?_) (λo i z K P g l m L=>D o i o[i] o[i+1] g l (dv (bX 0x711501276146511 rfl g l)) (dv (Nat.lt_of_lt_of_eq l (id (Eq.symm g)))) m z K P L) (by decide:1<=2) E h
 all_goals obtain e|⟨r,s,a,N,S,T,e⟩:=yM w o p<;>rw[e]
 ·simp
 ·exact rX (List.getElem?_set_ne (cm n)) (rX (List.getElem?_set_ne (λY=>gY (ln2 0x65146115012011110 rfl n Y))) rfl)
 ·exact h
 ·have:=A p r s a G (h r (gh N)) (h s (gh S)) T;exact(h.set this.1).set this.2
def cB(h:b=true->P)(H:b=false->Q):pG b P Q:=by cases b;exact H rfl;exact h rfl
def gV{o:List (Option R)}{i:Nat}(h:o[i]?=some x):(o.map gj)[i]?=some (gj x):=rX hW (rX h rfl)
def cs{P:Loc->MH->Prop}{o':List (Option R)}(h:P af [.list (o.map gj)])(e:o=o'):P af [.list (o'.map gj)]:=e▸h
def j0(m:Nat->Bool):W2:=λp r s=>bif r.o.isPlain&&(s.o.gn&&!m (p+1))then some (none,none)else none
def ku(m:Nat->Bool):W2:=λp r s=>bif s.o.cY&&!m (p+1)then(bif r.o.cY then some (none,none)else bif r.o.fB then some (some r,none)else none)else none
def fy(m:Nat->Bool):W2:=λp r s=>match r.o.bq with
 |some x=>(match s.o.jt with
  |some l=>bif x.2==p+2&&!m (p+1)then some (some ⟨.br (!x.1) l,r.g⟩,none)else none
  |none=>none)
 |none=>none
def dy(c:PC)(m:Nat->Bool):W2:=λp r s=>match r.o.pv with
 |some v=>(match m (p+1)with
  |true=>none
  |false=>(match s.o.bq with
   |some x=>some (none,bif v.truth==x.1 then some ⟨.aM x.2,s.g⟩else none)
   |none=>(match s.o.jt with
    |some t=>(match(c.rows[t]?).bind λq=>q.o.bq with
     |some x=>some (none,some ⟨.aM (bif v.truth==x.1 then x.2 else t+1),s.g⟩)
     |none=>none)
    |none=>none)))
 |none=>none
def dE(c:PC):PC:=h6 (j0 (marked c)) c
def gb(c:PC):PC:=h6 (ku (marked c)) c
def cI(c:PC):PC:=h6 (fy (marked c)) c
def eh(c:PC):PC:=h6 (dy c (marked c)) c
def e8{o:List (Option R)}(x:Option R){Q:Unit->MH->Prop}(H:i= .int k)(a:k<o.length)(b:o.length<=300)(e:o.set k x=o')(h:Q () [.list (o'.map gj)]):gJ (.lst 0) i (gj x) [.list (o.map gj)] Q:=
 ja rfl H (rX cX a) (rX cX (dR (av b))) (by exact rX e.symm (rX map_set rfl)) h
def CS{o:List (Option R)}(h:o[i]?=some x):o.set i x=o:=by
 obtain⟨a,H⟩:=List.getElem?_eq_some_iff.1 h;refine rX H.symm ?_;rw[set_getElem_self]
def Xf:iq (j0 m) o i x y=bif(x.any λr=>r.o.isPlain)&&((y.any λr=>r.o.gn)&&!m (i+1))then(o.set i none).set (i+1) none else o:=by
 cases x with
 |none=>rfl
 |some r=>cases y with
  |none=>refine rX Option.any_none ?_;rw[Bool.false_and,Bool.and_false];rfl
  |some s=>dsimp only[iq,j0,Option.any_some];cases r.o.isPlain&&(s.o.gn&&!m (i+1))<;>rfl
def s44(f:Ok c)(h:Q (dE c).mv J):call (run (d+4)) 44 [c.mv] J Q:=by
 refine Fi (λ_:Unit=>[]) () (j0 (marked c)) rfl rfl (by rfl) (λp r s a m t u h=>?_) (λo i x y j k g G l z K P H=>?_) f h
 ·unfold j0 at h;cases e:r.o.isPlain&&(s.o.gn&&!marked c (p+1))<;>rw[e]at h<;>cases h;exact⟨λZ e=>nn e,λZ e=>nn e⟩
 have b:=(kO (w:=j0 (marked c)) g G).trans Xf;refine aT rfl rfl (gV g) (ju JD (cB (λq1=>?_) λq1=>cs (H ()) (rX b (rX q1 rfl))));refine aT rfl rfl (gV G) (ju JE (cB (λq2=>?_) λq2=>cs (H ()) (rX b (rX q1 (rX q2 rfl)))));refine cV rfl (ew (Nat.lt_add_right 1 k)) (cB (λq3=>?_) λq3=>cs (H ()) (rX b (rX q1 (rX q2 (rX q3 rfl)))));exact e8 none rfl (PyProof.Rows.place_lt g) (ln2 0x651312c261112c2510 rfl f.n j) rfl (e8 none rfl (by simp;exact PyProof.Rows.place_lt G) (by simp;exact ln2 0x651312c261112c2510 rfl f.n j) (by exact rX b (rX q1 (rX q2 (rX q3 rfl)))) (H ()))
def Xg(g:o[i]?=some x):iq (ku m) o i x y=bif(y.any λr=>r.o.cY)&&!m (i+1)then(bif x.any λr=>r.o.cY then(o.set i none).set (i+1) none else bif x.any λr=>r.o.fB then o.set (i+1) none else o)else o:=by
 cases x with
 |none=>cases(y.any λr=>r.o.cY)&&!m (i+1)<;>rfl
 |some r=>cases y with
  |none=>rfl
  |some s=>
   dsimp only[iq,ku,Option.any_some];cases s.o.cY&&!m (i+1)
   ·rfl
   ·cases r.o.cY<;>cases r.o.fB<;>first|rfl|exact congrArg (λl:List (Option R)=>l.set (i+1) none) (CS g)
def s50(l:Ok c)(h:Q (gb c).mv J):call (run (d+4)) 50 [c.mv] J Q:=by
 have k:=l.n;refine Fi (λ_:Unit=>[]) () (ku (marked c)) rfl rfl (by rfl) (λp r s a v m A h=>?_) (λo i x y f t g G u z K P H=>?_) l h
 ·unfold ku at h;cases e:s.o.cY&&!marked c (p+1)<;>have h:=e▸h;exact nn (h);cases e:r.o.cY<;>have h:=e▸h
  ·cases e:r.o.fB<;>rw[e]at h<;>cases h;exact⟨λq e=>aj e▸m,λZ e=>nn e⟩
  ·obtain rfl:=aj h;exact⟨λZ e=>nn e,λZ e=>nn e⟩
 have b:=(kO (w:=ku (marked c)) g G).trans (Xg g);refine aT rfl rfl (gV G) (ju Fh ?_);cases q1:(y.any λr=>r.o.cY)with
 |false=>exact cs (H ()) (rX b (rX q1 rfl))
 |true=>
 refine cV rfl (ew (Nat.lt_add_right 1 t)) (cB (λq2=>?_) λq2=>?_)
 ·exact cs (H ()) (rX b (rX q1 (rX q2 rfl)))
 refine aT rfl rfl (gV g) (ju Fh (cB (λq3=>?_) λq3=>?_))
 ·exact e8 none rfl (PyProof.Rows.place_lt g) (ln2 0x651312c261112c2510 rfl k f) rfl (e8 none rfl (by simp;exact PyProof.Rows.place_lt G) (by simp;exact ln2 0x651312c261112c2510 rfl k f) (by exact rX b (rX q1 (rX q2 (rX q3 rfl)))) (H ()))
 refine aT rfl rfl (gV g) (ju JF (cB (λj=>?_) λj=>?_))
 ·exact e8 none rfl (PyProof.Rows.place_lt G) (ln2 0x651312c261112c2510 rfl k f) (by exact rX b (rX q1 (rX q2 (rX q3 (rX j rfl))))) (H ())
 ·exact cs (H ()) (rX b (rX q1 (rX q2 (rX q3 (rX j rfl)))))
section
variable{c:PC}
def ki{Q:Bool->MH->Prop}(H:Ops l t)(h:Q (t o) J):contains (.str o.name) (.tup l) J Q:=by obtain⟨k,e,H⟩:=H.2;exact jb e (H o▸h)
def kF(o:O):seq o.name cv=o.isJ:=lV (λs=>seq s cv) _ (by kernel_rfl) o
def vp(o:O):seq o.name f_=o.g8:=lV (λs=>seq s f_) _ (by kernel_rfl) o
def s1(a b c e:MV)(s:MV)(h:Q (.obj 0 [s,a,b,c,e]) J):call (run (d+1)) 1 [s,a,b,c,e] J Q:=cl rfl rfl (.inl h)
def Ph(b:Bool)(t g:Nat)(v:Vl)(h:Q (.bool (v.truth==b)) J):call (run (d+2)) 46 [R.mv ⟨.br b t,g⟩,v.mv] J Q:=by
 refine fr (af:=[some (R.mv ⟨.br b t,g⟩),some v.mv]) rfl rfl ⟨kh _,nz v,ai⟩ (s37 v (d0 ?_ ai));cases b<;>exact h
def CT{x:Option R}{t:O->Bool}{f:O->Option α}(H:∀o,(f o).isSome=t o)(h:(x.any λr=>t r.o)=true):∃r a,x=some r/\f r.o=some a:=by
 cases x with
 |none=>exact ft h
 |some r=>obtain⟨a,e⟩:=Option.isSome_iff_exists.1 ((H r.o).trans h);exact⟨r,a,rfl,e⟩
def CU{r:R}{t:O->Bool}{f:O->Option α}(H:∀o,(f o).isSome=t o)(h:t r.o=false):f r.o=none:=by
 cases e:f r.o with
 |none=>rfl
 |some a=>have:=H r.o;rw[e,h]at this;exact tf this
def o5(h:∀r s,x=some r->y=some s->w i r s=none):iq w o i x y=o:=by
 cases x with
 |none=>rfl
 |some r=>cases y with
  |none=>rfl
  |some s=>dsimp only[iq];exact rX (h r s rfl rfl) rfl
def cN{Q:Prop}(h:b=true->Q)(H:b=false->P):pG (!b) P Q:=by cases b;exact H rfl;exact h rfl
def gR{t:Nat}(h:c.rows[t]?=some q):(c.rows.map R.mv)[t]?=some q.mv:=rX hW (rX h rfl)
def s47(T:Ok c)(h:Q (eh c).mv J):call (run (d+4)) 47 [c.mv] J Q:=by
 have w:=T.n;refine Fi (λz:Option MV×Option MV×Option MV×Option MV×Option MV=>[z.1,z.2.1,z.2.2.1,z.2.2.2.1,z.2.2.2.2]) (none,none,none,none,none) (dy c (marked c)) rfl rfl (by rfl) (λp r s a hp h1 h2 h=>?_) (λo i x y f g k G W=>?_) T h
 ·unfold dy at h;cases B:r.o.pv with
  |none=>have h:=B▸h;exact nn h
  |some v=>cases D:marked c (p+1)with
   |true=>have h:=D▸B▸h;exact nn h
   |false=>cases L:s.o.bq with
    |some x=>
     rw[B,D,L]at h;obtain rfl:=aj h;refine⟨λZ e=>nn e,λq e j A=>?_⟩;dsimp only at e;cases E:v.truth==x.1<;>rw[E]at e<;>cases e;obtain rfl:=aj A;exact h2 _ (rX (gz L) rfl)
    |none=>cases V:s.o.jt with
     |none=>have h:=V▸L▸D▸B▸h;exact nn h
     |some t=>cases N:c.rows[t]? with
      |none=>have h:=V▸L▸D▸B▸h;dsimp only at h;have h:=N▸h;exact nn h
      |some q=>cases e6:q.o.bq with
       |none=>have h:=V▸L▸D▸B▸h;dsimp only at h;rw[N]at h;dsimp only[Option.bind_some]at h;rw[e6]at h;exact nn h
       |some x=>
        rw[B,D,L,V]at h;dsimp only at h;rw[N]at h;dsimp only[Option.bind_some]at h;rw[e6]at h;obtain rfl:=aj h;have m:=T.t _ (gh N) x.2 (rX (gz e6) rfl);have ht:=(cu N);exact⟨λZ e=>nn e,λq e j A=>by obtain rfl:=aj e;obtain rfl:=aj A;cases v.truth==x.1<;>dsimp only[cond]<;>lia⟩
 refine rX (kO k G) ?_;cases q1:x.any λr=>r.o.ky with
 |false=>
  exact rX (o5 λr s e Z=>by subst e;unfold dy;exact rX (CU CR q1) rfl) (λz K P H=>aT rfl rfl (gV k)<|aT rfl rfl (gV G)<|ju kz (rX q1 (H (_,_,_,_,_))))
 |true=>
 obtain⟨⟨ro,X⟩,v,rfl,Y⟩:=CT CR q1;obtain rfl:=vn Y;cases y with
 |none=>exact λz K P H=>aT rfl rfl (gV k)<|aT rfl rfl (gV G)<|ju kz<|H (_,_,_,_,_)
 |some s=>
 cases q2:marked c (i+1)with
 |true=>
  exact rX (o5 λr' s' e Z=>by obtain rfl:=aj e;unfold dy;exact rX Y (rX q2 rfl)) (λz K P H=>aT rfl rfl (gV k)<|aT rfl rfl (gV G)<|ju kz<|cV rfl (ew (ln2 0x61150121160115011 rfl g)) (rX q2 (H (_,_,_,_,_))))
 |false=>
 obtain⟨so,S⟩:=s;cases hx:so.bq with
 |some x=>
  obtain⟨b,t⟩:=x;obtain rfl:=gz hx;cases C:(v.truth==b)with
  |false=>
   exact rX (show iq (dy c (marked c)) o i (some ⟨.push v,X⟩) (some ⟨.br b t,S⟩)=(o.set i none).set (i+1) none by dsimp only[iq,dy,O.pv,O.bq];exact rX q2 (rX C rfl)) (λz K P H=>aT rfl rfl (gV k)<|aT rfl rfl (gV G)<|ju kz<|cV rfl (ew (ln2 0x61150121160115011 rfl g))<|iF q2<|ki kr<|Ph b t S v<|e8 none rfl (bX 0x711501276146511 rfl f g) (ln2 0x651312c261112c2510 rfl w f) rfl<|iF C<|e8 none rfl (by simp;exact bX 0x711501276146115011 rfl f g) (by simp;exact ln2 0x651312c261112c2510 rfl w f) rfl<|H (_,_,_,_,_))
  |true=>
   exact rX (show iq (dy c (marked c)) o i (some ⟨.push v,X⟩) (some ⟨.br b t,S⟩)=(o.set i none).set (i+1) (some ⟨.aM t,S⟩) by dsimp only[iq,dy,O.pv,O.bq];exact rX q2 (rX C rfl)) (λz K P H=>aT rfl rfl (gV k)<|aT rfl rfl (gV G)<|ju kz<|cV rfl (ew (ln2 0x61150121160115011 rfl g))<|iF q2<|ki kr<|Ph b t S v<|e8 none rfl (bX 0x711501276146511 rfl f g) (ln2 0x651312c261112c2510 rfl w f) rfl<|iT C<|s1 _ _ _ _ _<|e8 (some ⟨.aM t,S⟩) rfl (by simp;exact bX 0x711501276146115011 rfl f g) (by simp;exact ln2 0x651312c261112c2510 rfl w f) rfl<|H (_,_,_,_,_))
 |none=>
 have q3:so.g7=false:=by rw[<-nY];refine rX hx ?_;rfl
 cases A:so.jt with
 |none=>
  have C:so.isJ=false:=by rw[<-nZ];refine rX A ?_;rfl
  exact rX (o5 λr' s' e E=>by obtain rfl:=aj e;obtain rfl:=aj E;unfold dy;exact rX Y (rX q2 (rX hx (rX A rfl)))) (λz K P H=>aT rfl rfl (gV k)<|aT rfl rfl (gV G)<|ju kz<|cV rfl (ew (ln2 0x61150121160115011 rfl g))<|iF q2<|ki kr<|iF q3<|iF ((kF so).trans C)<|H (_,_,_,_,_))
 |some t=>
 obtain rfl:=ip A
 have hm:(⟨.aM t,S⟩:R)∈c.rows:=by
  have:=W (i+1) di;rw[G,hW]at this;obtain⟨r,e,E⟩:=Option.map_eq_some_iff.1 this.symm;obtain rfl:=aj E;exact gh e
 obtain⟨⟨qo,qg⟩,m⟩:∃q,c.rows[t]?=some q:=⟨_,dv (T.t _ hm t rfl)⟩;cases h5:qo.bq with
 |none=>
  exact rX (o5 λr' s' e E=>by obtain rfl:=aj e;obtain rfl:=aj E;show(match marked c (i+1)with|true=>none|false=>(match(c.rows[t]?).bind λq=>q.o.bq with|some x=>_|none=>none):Option (Option R×Option R))=none;refine rX q2 ?_;refine rX m ?_;rw[Option.bind_some,h5]) (λz K P H=>aT rfl rfl (gV k)<|aT rfl rfl (gV G)<|ju kz<|cV rfl (ew (ln2 0x61150121160115011 rfl g))<|iF q2<|ki kr<|cV rfl (gR m)<|ki kr<|iF (by rw[<-nY];refine rX h5 ?_;rfl)<|H (_,_,_,_,_))
 |some x=>
 obtain⟨b,l⟩:=x;obtain rfl:=gz h5
 have hw:∀u,(bif v.truth==b then l else t+1)=u->iq (dy c (marked c)) o i (some ⟨.push v,X⟩) (some ⟨.aM t,S⟩)=(o.set i none).set (i+1) (some ⟨.aM u,S⟩):=λu e=>by
  subst e;dsimp only[iq,dy,O.pv,O.bq,O.jt];exact rX q2 (rX m rfl)
 cases q6:(v.truth==b)<;>rw[q6]at hw<;>refine rX (hw _ rfl) ?_
 ·exact λz K P H=>aT rfl rfl (gV k)<|aT rfl rfl (gV G)<|ju kz<|cV rfl (ew (ln2 0x61150121160115011 rfl g))<|iF q2<|ki kr<|cV rfl (gR m)<|ki kr<|cV rfl (gR m)<|Ph b l qg v<|iF q6<|e8 none rfl (bX 0x711501276146511 rfl f g) (ln2 0x651312c261112c2510 rfl w f) rfl<|s2 ⟨.aM t,S⟩ (t+1) rfl<|e8 (some ⟨.aM (t+1),S⟩) rfl (by simp;exact bX 0x711501276146115011 rfl f g) (by simp;exact ln2 0x651312c261112c2510 rfl w f) rfl<|H (_,_,_,_,some (.int ((t:Int)+1)))
 ·exact λz K P H=>aT rfl rfl (gV k)<|aT rfl rfl (gV G)<|ju kz<|cV rfl (ew (ln2 0x61150121160115011 rfl g))<|iF q2<|ki kr<|cV rfl (gR m)<|ki kr<|cV rfl (gR m)<|Ph b l qg v<|iT q6<|e8 none rfl (bX 0x711501276146511 rfl f g) (ln2 0x651312c261112c2510 rfl w f) rfl<|s2 ⟨.aM t,S⟩ l rfl<|e8 (some ⟨.aM l,S⟩) rfl (by simp;exact bX 0x711501276146115011 rfl f g) (by simp;exact ln2 0x651312c261112c2510 rfl w f) rfl<|H (_,_,_,_,some (.int (l:Nat)))
def s48(L:Ok c)(h:Q (cI c).mv J):call (run (d+4)) 48 [c.mv] J Q:=by
 have u:=L.n;refine Fi (λz:Option MV×Option MV×Option MV=>[z.1,z.2.1,z.2.2]) (none,none,none) (fy (marked c)) rfl rfl (by rfl) (λp r s a X B C h=>?_) (λo i x y f k G m N=>?_) L h
 ·unfold fy at h;cases E:r.o.bq with
  |none=>have h:=E▸h;exact nn h
  |some x=>cases D:s.o.jt with
   |none=>have h:=D▸E▸h;exact nn h
   |some l=>
    rw[E,D]at h;dsimp only at h;cases W:x.2==p+2&&!marked c (p+1)<;>rw[W]at h;exact nn h;obtain rfl:=aj h;exact⟨λq e j S=>by obtain rfl:=aj e;obtain rfl:=aj S;exact C l (rX (ip D) rfl),λZ e=>nn e⟩
 refine rX (kO G m) ?_;cases q1:x.any λr=>r.o.g7 with
 |false=>
  exact rX (o5 λr s e Z=>by subst e;unfold fy;exact rX (CU nY q1) rfl) (λz K P H=>aT rfl rfl (gV G)<|aT rfl rfl (gV m)<|ju kr<|iF q1<|H (_,_,_))
 |true=>
 obtain⟨⟨Y,g⟩,⟨b,t⟩,rfl,B⟩:=CT nY q1;obtain rfl:=gz B;cases q2:y.any λr=>r.o.isJ with
 |false=>
  exact rX (o5 λr s e T=>by obtain rfl:=aj e;subst T;unfold fy;exact rX (CU nZ q2) (rX B rfl)) (λz K P H=>aT rfl rfl (gV G)<|aT rfl rfl (gV m)<|ju kr<|ju qV<|iF q2<|H (_,_,_))
 |true=>
 obtain⟨⟨so,V⟩,l,rfl,C⟩:=CT nZ q2;obtain rfl:=ip C;have v:((t:Int)==(i:Int)+2)=(t==i+2):=by rw[Bool.eq_iff_iff,beq_iff_eq,beq_iff_eq];exact⟨λh=>Int.ofNat.inj h,λh=>congrArg Int.ofNat h⟩
 have w:∀o',(match bif t==i+2&&!marked c (i+1)then some (some (⟨.br (!b) l,g⟩:R),(none:Option R))else none with|some a=>(o.set i a.1).set (i+1) a.2|none=>o)=o'->iq (fy (marked c)) o i (some ⟨.br b t,g⟩) (some ⟨.aM l,V⟩)=o':=λZ e=>e;cases q3:(t==i+2)<;>rw[q3]at w
 ·exact rX (w _ rfl) (λz K P H=>aT rfl rfl (gV G)<|aT rfl rfl (gV m)<|ju kr<|ju qV<|iF (v.trans q3)<|H (_,_,_))
 cases A:marked c (i+1)<;>rw[A]at w<;>refine rX (w _ rfl) ?_
 ·cases b
  ·exact λz K P H=>aT rfl rfl (gV G)<|aT rfl rfl (gV m)<|ju kr<|ju qV<|iT (v.trans q3)<|cV rfl (ew (ln2 0x61150121160115011 rfl k))<|iT (congrArg _ A)<|s1 _ _ _ _ _<|e8 (some ⟨.br true l,g⟩) rfl (bX 0x711501276146511 rfl f k) (ln2 0x651312c261112c2510 rfl u f) rfl<|e8 none rfl (by simp;exact bX 0x711501276146115011 rfl f k) (by simp;exact ln2 0x651312c261112c2510 rfl u f) rfl<|H (_,_,_)
  ·exact λz K P H=>aT rfl rfl (gV G)<|aT rfl rfl (gV m)<|ju kr<|ju qV<|iT (v.trans q3)<|cV rfl (ew (ln2 0x61150121160115011 rfl k))<|iT (congrArg _ A)<|s1 _ _ _ _ _<|e8 (some ⟨.br false l,g⟩) rfl (bX 0x711501276146511 rfl f k) (ln2 0x651312c261112c2510 rfl u f) rfl<|e8 none rfl (by simp;exact bX 0x711501276146115011 rfl f k) (by simp;exact ln2 0x651312c261112c2510 rfl u f) rfl<|H (_,_,_)
 ·exact λz K P H=>aT rfl rfl (gV G)<|aT rfl rfl (gV m)<|ju kr<|ju qV<|iT (v.trans q3)<|cV rfl (ew (ln2 0x61150121160115011 rfl k))<|iF (congrArg _ A)<|H (_,_,_)
end
def Ap{a b:Int}(h:decide (a<=b)=true):a<=b:=of_decide_eq_true h
def nl(h:Nat.ble a b=true):a<=b:=aR h
structure Bk where
 b0:Int
 b1:Int
 b2:Int
 s:Bool
noncomputable def Bk.c(b:Bk):MC:=.list [.int b.b0,.int b.b1,.int b.b2,.bool b.s]
structure Bk.ok(b:Bk)(n:Nat):Prop where
 h0:0<=b.b0
 h1:0<=b.b1
 IM:b.b1<2147483647
 h2:0<=b.b2
 IP:b.b2+n<=600000
def Bk.ok.le{b:Bk}(h:b.ok n)(l:m<=n):b.ok m:=⟨h.h0,h.h1,h.IM,h.h2,ia l h.IP⟩
def xD(a:Int)(m:Nat)(H:0<m):∃k:Nat,k<m/\a.fmod m=k:=by
 refine rX (Int.fmod_eq_emod_of_nonneg _ (Ap rfl)) ?_;have c:=Int.emod_nonneg a (show(m:Int)≠0 from Int.ofNat_ne_zero.2 (Nat.ne_of_gt H));have d:=Int.emod_lt_of_pos a (show(0:Int)<m by exact Int.ofNat_lt.2 H);exact⟨(a % m).toNat,(λ{n} {z} h=>(Int.toNat_lt h).mpr) c d,Eq.symm (Int.toNat_of_nonneg c)⟩
def aV(o:O):MV:=.aQ [.str o.name,o.a,o.b,o.c]
def Sy(o:O):pure o.a:=by cases o with|push x=>exact nz x|_=>exact ai
def Sz(o:O):pure o.b:=by cases o<;>exact ai
def SA(o:O):pure o.c:=by cases o with|send b=>exact⟨ai,ai,ai⟩|_=>exact ai
def Xh(o:O):pure (aV o):=⟨ai,Sy o,Sz o,SA o,ai⟩
def Fj:∀t g:MH,EU J n t (t++g) t:=by
 intro m;induction m with
 |nil=>exact λZ=>rfl
 |cons _ t i=>exact λg=>⟨.keep,i g⟩
def eP:∀l:List O,kZ J n (l.map aV) (l.map aV):=λl=>g6 (eU Xh l)
section
variable{b:Bk}
def SD{B:Bk}(H:Fz (B.c::(t++g)) (t.length+1) r v)(h:Q v (B.c::t)):fin (b.c::t) Q r (B.c::(t++g)):=
 .inr ⟨v,B.c::t,H,⟨.all (g6 ⟨ai,ai,ai,ai,ai⟩),Fj _ _⟩,h⟩
def Fm(m:Nat)(o:0<m)(p:m<1000)(w:b.ok (n+1))(h:∀(j:Nat) (B:Bk),j<m->B.ok n->B.s=b.s->Q (.int j) (B.c::t)):b57 (run d) [some (.lst 0),some (.int m),none,none] (b.c::t) (eN Q):=by
 obtain⟨b0,b1,b2,s⟩:=b;obtain⟨r,l,f,i,H⟩:=w;dsimp only at r l f i H;have g:=Int.ofNat_ne_zero.2 (Nat.ne_of_gt o);refine aT rfl rfl rfl (cB (λe=>?_) λe=>?_)
 ·obtain⟨k,u,E⟩:=xD b0 m o;refine aT rfl rfl rfl (fR g (aT rfl rfl rfl (fR ⟨g,Nat.lt_add_left _ p⟩ (ja rfl rfl (nl rfl) (nl rfl) rfl ?_))));exact rX E (h k ⟨b0.fdiv m,b1,b2,s⟩ u ⟨Int.fdiv_nonneg r (Ap rfl),l,f,i,ia (aE n) H⟩ rfl)
 ·refine aT rfl rfl rfl (ja rfl rfl (nl rfl) (nl rfl) rfl (aT rfl rfl rfl (aT rfl rfl rfl (fR (by decide) (fR ⟨by decide,by decide,?_⟩ (fR (by decide) ?_))))))
  ·exact nb (a:=40169) (c:=7) l f i H (by decide)
  have v:∀x:Int,0<=x.fmod 2147483647/\x.fmod 2147483647<2147483647:=λx=>by
   exact rX (Int.fmod_eq_emod_of_nonneg _ (Ap rfl)) (⟨Int.emod_nonneg _ (by decide),Int.emod_lt_of_pos _ (Int.natCast_nonneg _)⟩)
  have:=v ((b1+40169*(b2+1)+7)^5);refine aT rfl rfl rfl (fR (by decide) (fR ⟨by decide,by decide,?_⟩ (fR (by decide) (fR ⟨by decide,by decide⟩ (fR g ?_)))))
  ·exact nb0 (a:=93001) this.1 this.2 i H (by decide)
  obtain⟨k,u,E⟩:=xD ((Int.fmod ((Int.fmod ((b1+40169*(b2+1)+7)^5) 2147483647+93001*(b2+1))^3) 2147483587).fdiv 16) m o;exact rX E (h k ⟨b0,b1,b2+1,s⟩ u ⟨r,l,f,by dsimp only;exact Int.le_add_one i,ib H⟩ rfl)
def kG(m:Nat)(a:0<m)(H:m<1000)(e:b.ok (n+1))(h:∀(j:Nat) (B:Bk),j<m->B.ok n->B.s=b.s->Q (.int j) (B.c::t)):call (run (d+1)) 57 [.lst 0,.int m] (b.c::t) Q:=
 dr (af:=[some (.lst 0),some (.int m),none,none]) rfl rfl (Fm m a H e λj B f g i=>.inl (h j B f g i))
def SE(m:Nat)(e:J[i]?=some b.c)(f:0<m)(H:m<1000)(g:b.ok (n+1))(h:∀(j:Nat) (B:Bk),j<m->B.ok n->B.s=b.s->Q (.int j) (J.set i B.c)):call (run (d+1)) 57 [.lst i,.int m] J Q:=
 c1r (iE:=[.lst 0,.int m]) e ⟨ai,ai,ai,ai,ai⟩ rfl (λv a=>(hH a).elim .inl λa=>.inr (d5 a▸trivial)) (af:=[some (.lst 0),some (.int m),none,none]) rfl rfl<|Fm m f H g λj B k l o=>⟨.int j,_,.pure ai,ai,rfl,⟨ai,ai,ai,ai,ai⟩,h j B k l o⟩
end
noncomputable def gc:List Vl:=[.none,.tt,.ff,.i0,.i5,.s]
def gl1{t:MH}:(a::(t++[c]))[t.length+1]?=some c:=by simp
def vq{t:MH}:(a::b::(t++[c]))[t.length+2]?=some c:=by simp
section
variable{b:Bk}
def dT(o:O)(H:frame ⟨4,[.none,.none,.none],4,.fn ON⟩ (l.map some)=some [some (.str o.name),some o.a,some o.b,some o.c])(e:f9 l)(h:Q (aV o) J):call (run (d+1)) 58 l J Q:=
 fr rfl H e (aY (nl rfl) ⟨_,.lst aZ rfl (g6 ⟨ai,Sy o,Sz o,SA o,ai⟩),h⟩)
def JG(H:frame ⟨4,[.none,.none,.none],4,.fn ON⟩ (l.map some)=some [some x,some y,some z,some w])(h:Q (.lst J.length) (J++[.list [x,y,z,w]])):call (run (d+1)) 58 l J Q:=
 dr rfl H (aY (nl rfl) (.inl h))
def JH(e:b.ok (n+1))(h:∀(x:Vl) (B:Bk),x∈gc->B.ok n->B.s=b.s->Q x.mv (B.c::t)):call (run (d+2)) 59 [.lst 0] (b.c::t) Q:=by
 refine dr (af:=[some (.lst 0)]) rfl rfl (aY (nl rfl) ?_);show call (run (d+1)) 57 [.lst 0,.int (6:Nat)] (b.c::(t++[.list (gc.map Vl.mv)])) _;refine kG 6 (Nat.zero_lt_succ 5) (bD rfl) e λj B H a f=>?_;have H:gc[j]?=some gc[j]:=dv H;exact aT gl1 rfl (rX hW (rX H rfl)) (SD (.pure (nz _)) (h _ B (gh H) a f))
def s60(a:b.ok (n+1))(h:∀(k:Nat) (B:Bk),k<2->B.ok n->B.s=b.s->Q (.aQ ([.self,.aL k,.send false,.pop].map aV)) (B.c::t)):call (run (d+2)) 60 [.lst 0] (b.c::t) Q:=by
 refine dr (af:=[some (.lst 0)]) rfl rfl ?_;refine dT .self rfl ⟨ai,ai⟩ (kG 2 (Nat.zero_lt_two) (bD rfl) a λk B e H f=>dT (.aL k) rfl ⟨ai,ai,ai,ai⟩ (dT (.send false) rfl ⟨ai,ai,ai,⟨ai,ai,ai⟩,ai⟩ (dT .pop rfl ⟨ai,ai⟩ (aY (nl rfl) ?_))));exact SD (.lst di gl1 (eP [.self,.aL k,.send false,.pop])) (h k B e H f)
end
def p0:t<+:t:=prefix_refl _
def p1{t u g:MH}(h:t<+:u):t<+:u++g:=h.trans (prefix_append _ _)
def SH{b B:Bk}(H:t<+:u)(e:q=p++l)(a:kZ (B.c::.list q::u) (t.length+2) l l')(h:Q .none (B.c::.list (p++l')::t)):fin (b.c::.list p::t) Q .none (B.c::.list q::u):=by
 obtain⟨g,rfl⟩:=H;subst e;exact .inr ⟨.none,B.c::.list (p++l')::t,.pure ai,⟨.all (g6 ⟨ai,ai,ai,ai,ai⟩),.app a,Fj _ _⟩,h⟩
section
variable{b:Bk}
def JI(e:J[a]?=some (.list l))(H:(l++m).length<=cL)(E:l++m=l')(h:Q .none (J.set a (.list l'))):eG .extend (.lst a) [.aQ m] J Q:=by subst E;with_unfolding_all exact⟨l,e,H,h⟩
def Fo{b:Nat}(H:a≠b)(e:J[a]?=some (.list l))(E:J[b]?=some (.list m))(c:(l++m).length<=cL)(d:l++m=l')(h:Q .none (J.set a (.list l'))):eG .extend (.lst a) [.lst b] J Q:=by subst d;with_unfolding_all exact⟨H,m,E,l,e,c,h⟩
def iw(H:l.length<=cL)(h:Q (.lst (t.length+2)) (a::c::(t++[.list l]))):newList l (a::c::t) Q:=aY H h
def Fp{p k:Nat}(h:p<=1000)(H:k<=1000):p+k<=cL:=bt (Nat.add_le_add h H) (by decide)
def Aq{os:List O}(h:p.length<=900)(H:os.length<=100):(p++os.map aV).length<=1000:=rX c9 (rX cX (Nat.add_le_add h H))
def ext1{os:List O}(H:p.length<=1000)(a:os.length<=1000)(h:Q .none (b.c::.list (p++os.map aV)::(t++[.list (os.map aV)]))):
  eG .extend (.lst 1) [.lst (b.c::.list p::t).length] ((b.c::.list p::t)++[.list (os.map aV)]) Q:=
 Fo (Nat.ne_of_beq_eq_false rfl) rfl (vq) (rX c9 (rX cX (Fp H a))) rfl h
def Fq(o:O)(H:p.length<=1000)(h:Q .none (b.c::.list (p++[o].map aV)::t)):eG .append (.lst 1) [aV o] (b.c::.list p::t) Q:=
 iH rfl (iC H (by decide)) rfl h
def s61(e:b.ok (n+1))(a:p.length<=900)(h:∀(k:Nat) (B:Bk),k<2->B.ok n->B.s=b.s->Q .none (B.c::.list (p++[O.aL k,.br true (p.length+4),.push .tt,.aM (p.length+5),.push .ff].map aV)::t)):call (run (d+2)) 61 [.lst 0,.lst 1] (b.c::.list p::t) Q:=by
 refine dr rfl rfl (ed rfl (hZ rfl ?_));refine kG 2 (Nat.zero_lt_two) (bD rfl) e λk B f H g=>dT (.aL k) rfl ⟨ai,ai,ai,ai⟩ (dT (.br true (p.length+4)) rfl ⟨ai,ai,ai⟩ ?_);refine dT (.push .tt) rfl ⟨ai,ai,ai⟩ (aY (nl rfl) ?_);refine ext1 (os:=[O.aL k,O.br true (p.length+4),O.push .tt]) (av a) (nl rfl) ?_;refine hZ rfl (dT (.aM (p.length+5)) rfl ⟨ai,ai,ai⟩ (dT (.push .ff) rfl ⟨ai,ai,ai⟩ (aY (nl rfl) ?_)));refine ext1 (os:=[O.aM (p.length+5),O.push .ff]) (Aq a (nl rfl)) (nl rfl) ?_;exact SH (p1 (p1 p0)) (by rw[append_assoc];rfl) (eP [O.aL k,.br true (p.length+4),.push .tt,.aM (p.length+5),.push .ff]) (h k B f H g)
end
inductive fh(p:Nat):List O->Prop
 |w0 (k:Nat):k<2->fh p [.self,.aL k,.send false,.pop]
 |w1 (x:Vl) (k:Nat):x∈gc->k<2->fh p [.push x,.a8 k]
 |w2 (o:O):((∃x,x∈gc/\o= .push x)\/o= .self\/(∃k,k<2/\o= .aL k)\/o= .iQ false)->fh p [o,.pop]
 |w3 (x:Vl) (o:O):x∈gc->((∃k,k<2/\o= .a8 k)\/o= .gN true)->fh p [.push x,.dup,o,.pop]
 |w4a:fh p [.aL 0,.aL 1,.swap,.swap,.a8 1,.a8 0]
 |w4b:fh p [.aL 0,.aL 1,.swap,.a8 1,.a8 0]
 |w5 (k:Nat):k<2->fh p [.aL k,.dup,.swap,.gN false,.pop]
 |w6:fh p [.aM (p+1)]
 |w7:fh p [.aM (p+3),.push .i9,.pop]
 |w8 (k j:Nat):k<2->j<2->fh p [.aL k,.br true (p+4),.push .tt,.aM (p+5),.push .ff,.a8 j]
def Pj(b:Bk)(n:Nat)(p:List MV)(t:MH)(Q:QV):Prop:=∀(os:List O) (B:Bk),fh p.length os->B.ok n->B.s=b.s->Q .none (B.c::.list (p++os.map aV)::t)
def qX(d w:Nat):Prop:=∀{b:Bk}{n:Nat}{p:List MV}{t:MH}{Q:QV},b.ok (n+3)->p.length<=900->Pj b n p t Q->call (run (d+4)) 62 [.lst 0,.lst 1,.int w] (b.c::.list p::t) Q
def Pj.fin{B:Bk}{os:List O}(h:Pj b n p t Q)(H:fh p.length os)(a:B.ok n)(d:B.s=b.s)(f:t<+:u)(e:q=p++os.map aV):Mine.fin (b.c::.list p::t) Q .none (B.c::.list q::u):=
 SH f e (eP os) (h os B H a d)
def JK:qX d 0:=λH c h=>dr rfl rfl<|kG 2 (nl rfl) (nl rfl) H λj b1 Z H a=>hZ rfl<|s60 H λk b2 e H b=>
 JI rfl (rX c9 (Fp (av c) (nl rfl))) rfl (h.fin (.w0 k e) (H.le (aE _)) (b.trans a) p0 rfl)
def JL:qX d 5:=λH b h=>dr rfl rfl<|kG 2 (nl rfl) (nl rfl) H λk b1 c H a=>hZ rfl<|
 dT (.aL k) rfl ⟨ai,ai,ai,ai⟩<|dT .dup rfl ⟨ai,ai⟩<|dT .swap rfl ⟨ai,ai⟩<|dT (.gN false) rfl ⟨ai,ai,ai⟩<|dT .pop rfl ⟨ai,ai⟩<|aY (nl rfl)<|
 ext1 (os:=[O.aL k,.dup,.swap,.gN false,.pop]) (av b) (nl rfl) (h.fin (.w5 k c) (H.le (ar _ _)) a (p1 p0) rfl)
def JM:qX d 1:=λH c h=>dr rfl rfl<|kG 2 (nl rfl) (nl rfl) H λk b1 e H a=>hZ rfl<|
 JH H λx b2 f H b=>dT (.push x) rfl ⟨ai,nz x,ai⟩<|dT (.a8 k) rfl ⟨ai,ai,ai,ai⟩<|aY (nl rfl)<|
 ext1 (os:=[O.push x,.a8 k]) (av c) (nl rfl) (h.fin (.w1 x k f e) (H.le (aE _)) (b.trans a) (p1 p0) rfl)
def JN:qX d 6:=λH b h=>dr rfl rfl<|kG 2 (nl rfl) (nl rfl) H λk b1 c H a=>dz rfl<|ed rfl<|
 dT (.aM (List.length _+1)) rfl ⟨ai,ai,ai⟩<|Fq _ (av b) (h.fin .w6 (H.le (ar _ _)) a p0 rfl)
def JO:qX d 7:=λH b h=>dr rfl rfl<|kG 2 (nl rfl) (nl rfl) H λk b1 c H a=>hZ rfl<|ed rfl<|
 dT (.aM (List.length _+3)) rfl ⟨ai,ai,ai⟩<|dT (.push .i9) rfl ⟨ai,ai,ai⟩<|dT .pop rfl ⟨ai,ai⟩<|aY (nl rfl)<|
 ext1 (os:=[O.aM _,.push .i9,.pop]) (av b) (nl rfl) (h.fin .w7 (H.le (ar _ _)) a (p1 p0) rfl)
def JP:qX d 8:=λH c h=>dr rfl rfl<|kG 2 (nl rfl) (nl rfl) H λj b1 e H a=>s61 H c λk b2 f H b=>
 dz rfl<|dT (.a8 j) rfl ⟨ai,ai,ai,ai⟩<|Fq _ (Aq c (nl rfl)) (h.fin (.w8 k j f e) (H.le (aE _)) (b.trans a) p0 (by rw[append_assoc];rfl))
def JQ:qX d 2:=λ{b n p t Q} H i h=>dr rfl rfl<|kG 2 (nl rfl) (nl rfl) H λk b1 m H a=>
 JH H λx b2 r H c=>dT (.push x) rfl ⟨ai,nz x,ai⟩<|dT .self rfl ⟨ai,ai⟩<|dT (.aL k) rfl ⟨ai,ai,ai,ai⟩<|dT (.iQ false) rfl ⟨ai,ai,ai⟩<|iw (l:=[O.push x,.self,.aL k,.iQ false].map aV) (nl rfl)<|hZ rfl<|
 kG 4 (nl rfl) (nl rfl) H λj b3 f H e=>
 have s:∀o∈[O.push x,.self,.aL k,.iQ false],((∃x,x∈gc/\o= .push x)\/o= .self\/(∃k,k<2/\o= .aL k)\/o= .iQ false):=λo g=>by
  simp only[mem_cons,d6,or_false]at g;rcases g with rfl|rfl|rfl|rfl
  ·exact .inl ⟨x,r,rfl⟩
  ·exact .inr (.inl rfl)
  ·exact .inr (.inr (.inl ⟨k,m,rfl⟩))
  ·exact .inr (.inr (.inr rfl))
 aT (vq) rfl (rX hW (rX (dv f) rfl))<|dT .pop rfl ⟨ai,ai⟩<|aY (nl rfl)<|
 ext1 (os:=[_,O.pop]) (av i) (nl rfl) (h.fin (.w2 _ (s _ (gh (dv f)))) H (e.trans (c.trans a)) (p1 (p1 p0)) rfl)
def JR:qX d 3:=λ{b n p t Q} H i h=>dr rfl rfl<|kG 2 (nl rfl) (nl rfl) H λk b1 m H a=>
 dT (.a8 k) rfl ⟨ai,ai,ai,ai⟩<|dT (.gN true) rfl ⟨ai,ai,ai⟩<|iw (l:=[O.a8 k,.gN true].map aV) (nl rfl)<|
 kG 2 (nl rfl) (nl rfl) H λj b3 f H c=>
 have s:∀o∈[O.a8 k,.gN true],((∃k,k<2/\o= .a8 k)\/o= .gN true):=λo g=>by
  simp only[mem_cons,d6,or_false]at g;rcases g with rfl|rfl
  ·exact .inl ⟨k,m,rfl⟩
  ·exact .inr rfl
 aT (vq) rfl (rX hW (rX (dv f) rfl))<|hZ rfl<|JH H λx b2 r H e=>dT (.push x) rfl ⟨ai,nz x,ai⟩<|dT .dup rfl ⟨ai,ai⟩<|dT .pop rfl ⟨ai,ai⟩<|aY (nl rfl)<|
 ext1 (os:=[O.push x,.dup,_,.pop]) (av i) (nl rfl) (h.fin (.w3 x _ r (s _ (gh (dv f)))) H (e.trans (c.trans a)) (p1 (p1 p0)) rfl)
def add_r{m:List O}(e:J[a]?=some (.list (l.map aV)))(E:J[a']?=some (.list (m.map aV)))(h:newList ((l++m).map aV) J Q):binop .add (.lst a) (.lst a') J Q:=
 f' e (f' E (Eq.mp (congrArg (λl=>newList l J Q) fD) h))
def JS:qX d 4:=λ{b n p t Q} H e h=>dr rfl rfl<|kG 2 (nl rfl) (nl rfl) H λk b1 f H a=>
 dT .swap rfl ⟨ai,ai⟩<|dT .swap rfl ⟨ai,ai⟩<|iw (nl rfl)<|dT .swap rfl ⟨ai,ai⟩<|iw (nl rfl)<|iw (nl rfl)<|
 kG 2 (nl rfl) (nl rfl) H λj b2 g H c=>by
 rcases(IL (by assumption))with rfl|rfl
 ·refine aT (vq) rfl rfl<|hZ rfl<|dT (.aL 0) rfl ⟨ai,ai,ai,ai⟩<|dT (.aL 1) rfl ⟨ai,ai,ai,ai⟩<|iw (l:=[O.aL 0,.aL 1].map aV) (nl rfl) ?_;refine add_r (vq) (by simp)<|iw (l:=[O.aL 0,.aL 1,.swap,.swap].map aV) (nl rfl) ?_;refine dT (.a8 1) rfl ⟨ai,ai,ai,ai⟩<|dT (.a8 0) rfl ⟨ai,ai,ai,ai⟩<|iw (l:=[O.a8 1,.a8 0].map aV) (nl rfl) ?_;refine add_r (l:=[O.aL 0,.aL 1,.swap,.swap]) (by simp) (vq)<|aY (nl rfl) ?_;exact ext1 (et 0x38425113e82510 rfl e) (nl rfl) (h.fin .w4a (H.le (et 18154768 rfl)) (c.trans a) (p1 (p1 (p1 (p1 (p1 (p1 (p1 p0))))))) rfl)
 ·refine aT (vq) rfl rfl<|hZ rfl<|dT (.aL 0) rfl ⟨ai,ai,ai,ai⟩<|dT (.aL 1) rfl ⟨ai,ai,ai,ai⟩<|iw (l:=[O.aL 0,.aL 1].map aV) (nl rfl) ?_;refine add_r (vq) (by simp)<|iw (l:=[O.aL 0,.aL 1,.swap].map aV) (nl rfl) ?_;refine dT (.a8 1) rfl ⟨ai,ai,ai,ai⟩<|dT (.a8 0) rfl ⟨ai,ai,ai,ai⟩<|iw (l:=[O.a8 1,.a8 0].map aV) (nl rfl) ?_;refine add_r (l:=[O.aL 0,.aL 1,.swap]) (by simp) (vq)<|aY (nl rfl) ?_;exact ext1 (et 0x38425113e82510 rfl e) (nl rfl) (h.fin .w4b (H.le (et 18154768 rfl)) (c.trans a) (p1 (p1 (p1 (p1 (p1 (p1 (p1 p0))))))) rfl)
def s62{w:Nat}(H:w<9)(a:b.ok (n+3))(f:p.length<=900)(h:Pj b n p t Q):call (run (d+4)) 62 [.lst 0,.lst 1,.int w] (b.c::.list p::t) Q:=by
 exact es H (λH=>es H (λH=>es H (λH=>es H (λH=>es H (λH=>es H (λH=>es H (λH=>es H (λH=>es H (λH=>ak H (Nat.not_lt_zero _)) λe=>by subst e;exact JK a f h) λe=>by subst e;exact JM a f h) λe=>by subst e;exact JQ a f h) λe=>by subst e;exact JR a f h) λe=>by subst e;exact JS a f h) λe=>by subst e;exact JL a f h) λe=>by subst e;exact JN a f h) λe=>by subst e;exact JO a f h) λe=>by subst e;exact JP a f h
inductive cZ
 |st (os:List O)
 |tg (rs:List R)
 |o8 (k j:Nat)
 |jj (t:Nat)
 |bb (k:Nat) (s:Bool) (t:Nat)
 |hd (k t:Nat)
 |pb (v:Vl) (s:Bool) (t:Nat)
 |n6 (k:Nat) (s:Bool) (t:Nat)
noncomputable def mkR(o:O):R:=⟨o,0⟩
def Xi:List O->List R
 |[]=>[]
 |a::l=>⟨a,2⟩::l.map mkR
def CV(l:List O):(Xi l).map R.o=l:=by cases l with|nil=>rfl|cons a l=>show a::(l.map mkR).map R.o=_;exact rX map_map (congrArg _ (map_id l))
def cZ.rows(p:Nat):cZ->List R
 | .st os=>Xi os
 | .tg rs=>rs
 | .o8 k j=>[⟨.aL k,2⟩,⟨.br true (p+4),24⟩,⟨.push .tt,25⟩,⟨.aM (p+5),26⟩,⟨.push .ff,27⟩,⟨.a8 j,28⟩]
 | .jj t=>[⟨.aM t,21⟩]
 | .bb k s t=>[⟨.aL k,13⟩,⟨.br s t,14⟩]
 | .hd k t=>[⟨.aL k,1⟩,⟨.br false t,22⟩,⟨.push .none,23⟩,⟨.a8 k,0⟩]
 | .pb v s t=>[⟨.push v,15⟩,⟨.br s t,16⟩]
 | .n6 k s t=>[⟨.aL k,13⟩,⟨.br true (p+4),14⟩,⟨.push .tt,17⟩,⟨.aM (p+5),18⟩,⟨.push .ff,19⟩,⟨.br s t,20⟩]
noncomputable def cZ.len:cZ->Nat
 | .st os=>os.length
 | .tg rs=>rs.length
 | .o8 _ _=>6
 | .jj _=>1
 | .bb _ _ _=>2
 | .hd _ _=>4
 | .pb _ _ _=>2
 | .n6 _ _ _=>6
def cZ.kP(p:Nat)(b:cZ):(b.rows p).length=b.len:=by
 cases b with
 |st os=>exact ag (length_map (f:=R.o)) (congrArg List.length (CV os))
 |_=>rfl
noncomputable def flat:Nat->List cZ->List R
 |_,[]=>[]
 |p,b::bs=>b.rows p++flat (p+b.len) bs
noncomputable def aI:List cZ->Nat
 |[]=>0
 |b::bs=>b.len+aI bs
def o6(p:Nat)(B:List cZ):(flat p B).length=aI B:=by
 induction B generalizing p with
 |nil=>rfl
 |cons b B i=>dsimp only[flat,aI];simp[i,cZ.kP]
def bQ(a b:List cZ):aI (a++b)=aI a+aI b:=by
 induction a with
 |nil=>exact(aD _).symm
 |cons x a i=>dsimp only[aI,cons_append];rw[i];exact Eq.symm (bS x.len (aI a) (aI b))
def kH(p:Nat)(a b:List cZ):flat p (a++b)=flat p a++flat (p+aI a) b:=by
 induction a generalizing p with
 |nil=>rfl
 |cons x a i=>dsimp only[flat,aI,cons_append];simp[i,bS]
def flC:flat p (b::B)=b.rows p++flat (p+b.len) B:=rfl
def bu(p:Nat)(b:List cZ):List O:=(flat p b).map R.o
def fS(p:Nat)(a b:List cZ):bu p (a++b)=bu p a++bu (p+aI a) b:=by simp[bu,kH]
def fH(p:Nat)(b:cZ)(B:List cZ):bu p (b::B)=(b.rows p).map R.o++bu (p+b.len) B:=by dsimp only[bu,flat];exact map_append
def fi(p:Nat)(b:List cZ):(bu p b).length=aI b:=by simp[bu,o6]
inductive SG:List O->Prop
 |note (k:Nat):k<2->SG [.self,.aL k,.send false,.pop]
 |set (x:Vl) (k:Nat):x∈gc->k<2->SG [.push x,.a8 k]
 |Xj:SG [.aL 0,.aL 1,.swap,.a8 1,.a8 0]
inductive ST:List R->Prop
 |gone (o:O):((∃x,x∈gc/\o= .push x)\/o= .self\/(∃k,k<2/\o= .aL k)\/o= .iQ false)->ST [⟨o,4⟩,⟨.pop,5⟩]
 |dup (x:Vl) (o:O):x∈gc->((∃k,k<2/\o= .a8 k)\/o= .gN true)->ST [⟨.push x,6⟩,⟨.dup,7⟩,⟨o,9⟩,⟨.pop,10⟩]
 |Xk:ST [⟨.aL 0,2⟩,⟨.aL 1,0⟩,⟨.swap,11⟩,⟨.swap,12⟩,⟨.a8 1,0⟩,⟨.a8 0,0⟩]
 |glob (k:Nat):k<2->ST [⟨.aL k,6⟩,⟨.dup,7⟩,⟨.swap,8⟩,⟨.gN false,9⟩,⟨.pop,10⟩]
 |i9:ST [⟨.push .i9,4⟩,⟨.pop,5⟩]
inductive je(p:Nat):List cZ->Prop
 |st (os:List O):SG os->je p [.st os]
 |tg (rs:List R):ST rs->je p [.tg rs]
 |w6:je p [.jj (p+1)]
 |w7:je p [.jj (p+3),.tg [⟨.push .i9,4⟩,⟨.pop,5⟩]]
 |w8 (k j:Nat):k<2->j<2->je p [.o8 k j]
inductive Ask:(Nat->cZ)->Prop
 |pb (x:Vl) (s:Bool):x∈gc->Ask λt=>.pb x s t
 |bb (k:Nat) (s:Bool):k<2->Ask λt=>.bb k s t
 |n6 (k:Nat) (s:Bool):k<2->Ask λt=>.n6 k s t
inductive Hand(k:Nat):List O->Prop
 |tv (j:Nat):j<2->Hand k [.a8 k,.self,.aL j,.send false,.pop,.aL k,.eO,.a8 0]
 |Xl (j:Nat):j<2->Hand k [.a8 k,.self,.aL j,.send false,.pop,.aL k,.again]
inductive vr:List cZ->Prop
 |none:vr []
 |some (x:Vl):x∈gc->vr [.st [.self,.push x,.send true,.pop]]
inductive Piece:Nat->Nat->Nat->List cZ->List Ct->Nat->Prop
 |nil (d p k:Nat):Piece d p k [] [] k
 |simple (d p k:Nat) (bs:List cZ):je p bs->Piece d p k bs [] k
 |if1 (d p k:Nat) (A:Nat->cZ) (t:Nat) (bs:List cZ) (cs:List Ct) (k':Nat):Ask A->Piece d (p+(A 0).len) k bs cs k'->t=p+(A 0).len+aI bs->Piece (d+1) p k (A t::bs) cs k'
 |ua (d p k:Nat) (A:Nat->cZ) (q e:Nat) (b1 b2:List cZ) (c1 c2:List Ct) (k1 k2:Nat):Ask A->Piece d (p+(A 0).len) k b1 c1 k1->q=p+(A 0).len+aI b1->Piece d (q+1) k1 b2 c2 k2->e=q+1+aI b2->
   Piece (d+1) p k (A (q+1)::(b1++ .jj e::b2)) (c1++c2) k2
 |loop (d p k:Nat) (e:Nat) (bs:List cZ) (cs:List Ct) (k':Nat):Piece d (p+6) (k+1) bs cs k'->e=p+6+aI bs+1->
   Piece (d+1) p k (.st [.push .tt,.a8 k]:: .hd k e::(bs++[.jj (p+2)])) cs k'
 |eO (d p k:Nat) (r:Bool) (q e:Nat) (bs bm:List cZ) (h:List O) (cs:List Ct) (k':Nat):bs≠[]->Piece d p (k+1) bs cs k'->vr bm->q=p+aI (bs++bm)->Hand k h->e=q+1+h.length->
   Piece (d+1) p k (bs++bm++[.jj e,.st h]) (cs++[⟨r,p,q,q+1⟩]) k'
inductive Gen:PC->List cZ->Prop
 |one (d k j:Nat) (bs:List cZ) (cs:List Ct):d<=2->j<2->bs≠[]->Piece d 0 2 bs cs k->Gen ⟨flat 0 (bs++[.st [.aL j,.leave]]),cs,[0],k⟩ (bs++[.st [.aL j,.leave]])
 |two (d k k' j:Nat) (b1 b2:List cZ) (c1 c2:List Ct):d<=2->j<2->b1≠[]->Piece d 0 2 b1 c1 k->Piece d (aI b1) k b2 c2 k'->
   Gen ⟨flat 0 (b1++b2++[.st [.aL j,.leave]]),c1++c2,[0,aI b1],k'⟩ (b1++b2++[.st [.aL j,.leave]])
def JT(b:Bool):Str:=match b with|true=>cy|false=>bB
def CW(s:Bool):MC:=.list [.str (JT s),.int 0,.none,.none]
def SI(p:Nat)(P:List O)(s:Bool):Prop:=∃A,Ask A/\∀t,((A t).rows p).map R.o=P++[.br s t]
def yN(e:J[a]?=some (.list (l++[v])))(h:Q v J):f6 (.lst a) (.int (-1)) J Q:=by
 with_unfolding_all exact⟨l++[v],e,l.length,by simp,.inr (by simp;lia),v,by simp,h⟩
def vt(e:J[a]?=some (.list l'))(E:l'=l++[v])(h:Q v J):f6 (.lst a) (.int (-1)) J Q:=by subst E;exact yN e h
section
variable{b:Bk}
def BrQ(b:Bk)(n:Nat)(p:List MV)(t:MH)(Q:QV):Prop:=∀(P:List O) (s:Bool) (u:MH) (B:Bk),SI p.length P s->P.length<=5->t<+:u->B.ok n->B.s=b.s->Q (.lst (u.length+2)) (B.c::.list (p++P.map aV++[.lst (u.length+2)])::(u++[CW s]))
def yO(f:b.ok (n+1))(a:q.length<=1000)
 (h:∀(s:Bool) (B:Bk),B.ok n->B.s=b.s->Q (.lst ((t++[MC.list [.str cy,.str bB]]).length+2)) (B.c::.list (q++[.lst ((t++[MC.list [.str cy,.str bB]]).length+2)])::(t++[.list [.str cy,.str bB]]++[CW s]))):
 Ja (run (d+1)) [some (.lst 0),some (.lst 1),some w] (b.c::.list q::t) (eN (fin Pk Q)):=by
 refine dz rfl<|iw (nl rfl)<|kG 2 (nl rfl) (nl rfl) f λj B g H e=>?_;rcases(IL (by assumption))with rfl|rfl
 ·exact aT (vq) rfl rfl<|JG rfl<|iH rfl (iC a (by decide)) rfl<|yN rfl<| .inl (h true B H e)
 ·exact aT (vq) rfl rfl<|JG rfl<|iH rfl (iC a (by decide)) rfl<|yN rfl<| .inl (h false B H e)
def s63(H:b.ok (n+3))(g:p.length<=900)(h:BrQ b n p t Q):call (run (d+3)) 63 [.lst 0,.lst 1] (b.c::.list p::t) Q:=by
 refine dr (af:=[some (.lst 0),some (.lst 1),none]) rfl rfl<|kG 3 (nl rfl) (nl rfl) H λw b1 l H f=>?_;rcases(p_ (by assumption))with rfl|rfl|rfl
 ·exact dz rfl<|JH H λx b2 j H a=>dT (.push x) rfl ⟨ai,nz x,ai⟩<|Fq _ (et 0x38425113e82510 rfl g)<|yO H (Aq g (nl rfl)) λs b3 H e=>
   h [.push x] s _ b3 ⟨_,.pb x s j,λt=>rfl⟩ (nl rfl) (p1 p0) H (e.trans (a.trans f))
 ·exact dz rfl<|kG 2 (nl rfl) (nl rfl) H λk b2 i H a=>dT (.aL k) rfl ⟨ai,ai,ai,ai⟩<|Fq _ (et 0x38425113e82510 rfl g)<|yO H (Aq g (nl rfl)) λs b3 H e=>
   h [.aL k] s _ b3 ⟨_,.bb k s i,λt=>rfl⟩ (nl rfl) (p1 p0) H (e.trans (a.trans f))
 ·exact s61 H g λk b2 i H a=>yO H (Aq g (nl rfl)) λs b3 H e=>
   h [.aL k,.br true (p.length+4),.push .tt,.aM (p.length+5),.push .ff] s _ b3 ⟨_,.n6 k s i,λt=>rfl⟩ (nl rfl) (p1 p0) H (e.trans (a.trans f))
end
def lg(c:Ct):MV:=.aQ [.str c.sort,.int c.first,.int c.last,.int c.target,.int 0]
noncomputable def JU(k:Nat):MC:=.list [.lst 1,.lst 2,.int k]
noncomputable def NN:Nat->Nat|0=>10|d+1=>2*NN d+30
noncomputable def LL:Nat->Nat|0=>10|d+1=>2*LL d+20
theorem eQ:∀{a A b B:List MV},kZ J n a A->kZ J n b B->kZ J n (a++b) (A++B)
 |_,_,_,_,.nil=>λh=>h
 |_,_,_,_,.cons x r=>λh=>.cons x (eQ r h)
def mO:∀l:List Ct,kZ J n (l.map lg) (l.map lg):=λl=>g6 (eU (f:=lg) (λZ=>⟨ai,ai,ai,ai,ai,ai⟩) l)
section
variable{l:List MV}
def fq(b:Bk)(p C:List MV)(k:Nat)(t:MH):MH:=b.c::.list p::.list C::JU k::t
def tw(H:t<+:T)(e:q=p++l)(a:kZ (fq b' q r k' T) (t.length+4) l l')(E:r=ca++m)(c:kZ (fq b' q r k' T) (t.length+4) m m')(h:Q .none (fq b' (p++l') (ca++m') k' t)):fin (fq b p ca k t) Q .none (fq b' q r k' T):=by
 obtain⟨g,rfl⟩:=H;subst e E;exact .inr ⟨.none,fq b' (p++l') (ca++m') k' t,.pure ai,⟨.all (g6 ⟨ai,ai,ai,ai,ai⟩),.app a,.app c,.all (.cons (.old (by show 1<t.length+1+1+1+1;exact Nat.one_lt_succ_succ (List.length t+2))) (.cons (.old (by show 2<t.length+1+1+1+1;exact bD rfl)) (.cons (.pure ai) .nil))),Fj _ _⟩,h⟩
def mP(H:l.length<=cL)(h:Q (.lst (t.length+4)) (x0::x1::x2::x3::(t++[.list l]))):newList l (x0::x1::x2::x3::t) Q:=aY H h
def gm(h:U.length=u):(x0::x1::x2::x3::((U++[c])++G))[u+4]?=some c:=by subst h;simp
def ub(h:U.length=u):(x0::x1::x2::x3::(U++[c]))[u+4]?=some c:=by subst h;simp
def eY(h:U.length=u):(U++[c]).length=u+1:=by simp[h]
def gO(H:U.length=u)(a:l.length<=cL)(h:Q (.lst (u+4)) (x0::x1::x2::x3::(U++[.list l]))):newList l (x0::x1::x2::x3::U) Q:=by subst H;exact aY a h
def xE(H:U.length=u)(a:frame ⟨4,[.none,.none,.none],4,.fn ON⟩ (l.map some)=some [some x,some y,some z,some w])(h:Q (.lst (u+4)) (x0::x1::x2::x3::(U++[.list [x,y,z,w]]))):call (run (d+1)) 58 l (x0::x1::x2::x3::U) Q:=by subst H;exact JG a h
def qY{Q:Unit->MH->Prop}(H:U.length=u)(a:i<l.length)(b:l.length<=cL)(h:Q () (x0::x1::x2::x3::((U++[.list (l.set i v)])++G))):gJ (.lst (u+4)) (.int i) v (x0::x1::x2::x3::((U++[.list l])++G)) Q:=
 ja (gm H) rfl a b rfl (by subst H;exact rX (show(x0::x1::x2::x3::((U++[.list l])++G)).set (U.length+4) (.list (l.set i v))=x0::x1::x2::x3::((U++[.list (l.set i v)])++G) by simp) (h))
def uy{Q:Unit->MH->Prop}(H:U.length=u)(a:i<l.length)(b:l.length<=cL)(h:Q () (x0::x1::x2::x3::(U++[.list (l.set i v)]))):gJ (.lst (u+4)) (.int i) v (x0::x1::x2::x3::(U++[.list l])) Q:=
 ja (ub H) rfl a b rfl (by subst H;exact rX (show(x0::x1::x2::x3::(U++[.list l])).set (U.length+4) (.list (l.set i v))=x0::x1::x2::x3::(U++[.list (l.set i v)]) by simp) (h))
def yP{Q:Unit->MH->Prop}(H:U.length=u)(a:T=(U++[.list l])++G)(b:i<l.length)(c:l.length<=cL)(h:Q () (x0::x1::x2::x3::((U++[.list (l.set i v)])++G))):gJ (.lst (u+4)) (.int i) v (x0::x1::x2::x3::T) Q:=by subst a;exact qY H b c h
def qh{ns:List Nat}{Q:Bool->MH->Prop}(e:J[a]?=some (.list (ns.map er)))(h:Q (ns.any (· ==w)) J):contains (.int w) (.lst a) J Q:=by
 have k:∀ns:List Nat,dM (bV J 8) (ns.map er)=some (ns.map λn:Nat=>PyData.int n):=λns=>by
  induction ns with
  |nil=>rfl
  |cons n ns i=>refine rX map_cons ?_;dsimp only[dM];refine rX i ?_;rfl
 with_unfolding_all refine⟨_,e,.inr ⟨_,rfl,_,k ns,?_⟩⟩
 exact rX (show kx (.int w) (ns.map λn:Nat=>PyData.int n)=ns.any (· ==w) by
  unfold kx;refine rX any_map ?_;congr 1;funext n;simp only[Function.comp,PyData.eqv];rw[Bool.eq_iff_iff,beq_iff_eq,beq_iff_eq];exact Int.ofNat_inj) h
def PQ(b:Bk)(n:Nat)(p C:List MV)(k:Nat)(t:MH)(dp:Nat)(Q:QV):Prop:=∀(B:List cZ) (cs:List Ct) (c:Nat) (a:Bk),B≠[]->Piece dp p.length k B cs c->a.ok n->a.s=b.s->Q .none (fq a (p++(bu p.length B).map aV) (C++cs.map lg) c t)
def j1(d dp:Nat):Prop:=∀{b:Bk}{n:Nat}{p c:List MV}{k:Nat}{t:MH}{Q:QV}{i:Int},i=dp->b.ok (NN dp+n)->p.length+LL dp<=800->c.length<=p.length->PQ b n p c k t dp Q->call (run d) 64 [.lst 0,.lst 3,.int i] (fq b p c k t) Q
end
def je.of{p os}(h:fh p os):∃b,b≠[]/\je p b/\os=bu p b:=by
 cases h with
 |w0 k h=>exact⟨_,aN _ _,.st _ (.note k h),rfl⟩
 |w1 x k H h=>exact⟨_,aN _ _,.st _ (.set x k H h),rfl⟩
 |w2 o h=>exact⟨_,aN _ _,.tg _ (.gone o h),rfl⟩
 |w3 x o H h=>exact⟨_,aN _ _,.tg _ (.dup x o H h),rfl⟩
 |w4a=>exact⟨_,aN _ _,.tg _ .Xk,rfl⟩
 |w4b=>exact⟨_,aN _ _,.st _ .Xj,rfl⟩
 |w5 k h=>exact⟨_,aN _ _,.tg _ (.glob k h),rfl⟩
 |w6=>exact⟨_,aN _ _,.w6,rfl⟩
 |w7=>exact⟨_,aN _ _,.w7,rfl⟩
 |w8 k j a c=>exact⟨_,aN _ _,.w8 k j a c,rfl⟩
section
variable{b0:Bk}
noncomputable abbrev CX(dp:Nat)(w:Nat)(x y z u:Option MV):Loc:=[some (.lst 0),some (.lst 3),some (.int dp),some (.lst 1),some (.int w),x,y,z,u]
def xF(H:w<9)(g:b.ok (n+3))(i:p.length<=900)(a:b.s=b0.s)(h:PQ b0 n p ca k t dp Q):lK (run (d+5)) (CX dp w none none none none) (fq b p ca k t) (eN (fin (fq b0 p ca k t) Q)):=by
 refine iT (bA ((λ{m} {n}=>Int.lt_toNat.mp) H))<|s62 H g i λos j l c e=>mP (nl rfl)<|qh (ns:=[9,10,11]) (ub rfl)<|iF (by simp;exact⟨λY=>gY (et 0x5911391512011110 rfl H Y),λY=>gY (et 0x5a11391512011110 rfl H Y),λY=>gY (et 0x5b11391512011110 rfl H Y)⟩)<|iF (beq_eq_false_iff_ne.2 (nI (Nat.lt_trans H (nl rfl))))<|iF (beq_eq_false_iff_ne.2 (nI (Nat.lt_trans H (nl rfl))))<|iF (decide_eq_false (iN (bt (a_ H) (nl rfl)))) ?_;obtain⟨B,f,o,rfl⟩:=je.of l;exact tw (p1 p0) rfl (eP _) (append_nil _).symm .nil (h B [] k j f (.simple dp _ k B o) c (e.trans a))
def Ar:LL (dp+1)=2*LL dp+20:=rfl
def jR{p k:Nat}{b cs f}(h:Piece dp p k b cs f):aI b<=LL dp/\cs.length<=aI b:=by
 have H:∀{A:Nat->cZ}{t},Ask A->(A t).len<=6/\0<(A t).len:=λh=>by cases h<;>exact⟨nl rfl,nl rfl⟩
 induction h with
 |nil d=>exact⟨aZ,di⟩
 |simple d p k b h=>
  have:10<=LL d:=by cases d with|zero=>exact di|succ d=>exact rX Ar (a5 10 (2*LL d+10))
  have:aI b<=10:=by cases h with|st os h=>cases h<;>exact nl rfl|tg os h=>cases h<;>exact nl rfl|_=>exact nl rfl
  exact⟨by lia,aZ⟩
 |if1 d p k A t b cs f h _ _ i=>have:=H (t:=t) h;refine rX Ar ?_;exact⟨bX 0x6151176110142723065010 rfl i.1 this.1,bX 502804120848 rfl i.2⟩
 |ua d p k A q e b1 b2 c1 c2 m k2 h _ _ _ _ a c=>have:=H (t:=q+1) h;refine rX Ar ?_;simp only[aI,bQ,c9];exact⟨gf 0x6151187118611014282307110605010 rfl a.1 c.1 this.1,lS 0x961185119110807065010 rfl a.2 c.2⟩
 |loop d p k e b cs f _ _ i=>refine rX Ar ?_;simp only[aI,bQ];exact⟨ln2 0x651101426230011105041011110100010 rfl i.1,ln2 0x65110111060410111101000510 rfl i.2⟩
 |eO d p k r q e b B h cs f _ _ l _ hh _ i=>
  have g:aI B<=4:=by cases l<;>exact nl rfl
  have j:h.length<=8:=by cases hh<;>exact nl rfl
  refine rX Ar ?_;simp only[aI,bQ,cZ.len,c9,length_cons,length_nil];exact⟨gf 0x81711416118511014282300170110650010 rfl i.1 g j,gf 0x651101801107600110105010 rfl i.2⟩
def JV(h:SI pp pre s):∃A,Ask A/\(∀t,((A t).rows pp).map R.o=pre++[.br s t])/\∀t,(A t).len=pre.length+1:=by
 obtain⟨A,H,h⟩:=h;exact⟨A,H,h,λt=>by have:=congrArg List.length (h t);rw[cX,cZ.kP]at this;simpa using this⟩
def aap{os:List O}:(p++os.map aV++[x]).length=p.length+os.length+1:=by simp;exact Eq.symm (bS p.length os.length 1)
def vu(h:m<=j)(e:J[j]?=some (.list [.str (JT s),.int u,.none,.none])):Fz J m (.lst j) (aV (.br s u)):=by
 refine .lst h e (g6 ?_);cases s<;>exact⟨ai,ai,ai,ai,ai⟩
def Fs(f:b.ok (n+3))(i:p.length<=900)(h:∀(P:List O) (s:Bool) (a:MH) (u:Nat) (A:Nat->cZ) (B:Bk),Ask A->(∀t,((A t).rows p.length).map R.o=P++[.br s t])->(p++P.map aV++[MV.lst (u+4)]).length=p.length+(A 0).len->(A 0).len<=6->(∀t,(A t).len=(A 0).len)->a.length=u->t<+:a->B.ok n->B.s=b.s->
  Q (.lst (u+4)) (fq B (p++P.map aV++[.lst (u+4)]) ca k (a++[CW s]))):
  call (run (d+3)) 63 [.lst 0,.lst 1] (fq b p ca k t) Q:=s63 f i λP s u B j l m e r=>by
 obtain⟨g,rfl⟩:=m;obtain⟨A,v,c,H⟩:=JV j;exact h P s (t++g) _ A B v c (by refine rX aap ?_;rw[H];exact bS p.length P.length 1) (by rw[H];exact Nat.succ_le_succ l) (λt=>by rw[H,H]) rfl (p1 p0) e r
def Pl(c:j1 (d+5) dp)(f:b.ok (NN dp+n+3))(z:p.length+2*LL dp+20<=800)(E:ca.length<=p.length)(m:b.s=b0.s)(h:PQ b0 n p ca k t (dp+1) Q):lK (run (d+5)) (CX (dp+1) 9 none none none none) (fq b p ca k t) (eN (fin (fq b0 p ca k t) Q)):=by
 refine mP (nl rfl)<|qh (ns:=[9,10,11]) (ub rfl)<|iT rfl<|Fs f (ln2 0x32020142623500113842510 rfl z) λP s a u A b1 G H j o r g i f v=>?_;refine c (ic _) f (by refine rX j ?_;exact bX 0x61611320201427235001132027650010 rfl z o) (rX j (cb E)) λB cs C b2 L D f w=>?_;rw[j]at D⊢;refine xE (eY g) rfl<|ed rfl<|qY g (nl rfl) (nl rfl)<|ed rfl<|uy (eY g) (nl rfl) (nl rfl) ?_;have x:(p++P.map aV++[MV.lst (u+4)]++(bu (p.length+(A 0).len) B).map aV).length=p.length+(A 0).len+aI B:=by refine rX c9 ?_;refine rX j ?_;refine rX cX ?_;rw[fi]
 refine rX x ?_;refine tw (p1 (p1 (p1 p0 |>.trans i))) (l:=P.map aV++([MV.lst (u+4)]++(bu (p.length+(A 0).len) B).map aV)) (by simp only[append_assoc]) ?_ rfl (mO cs) (h _ cs C b2 (aN _ _) (.if1 dp _ k A _ B cs C G D rfl) f ((w.trans v).trans m));have y:t.length<=u:=by have:=i.length_le;simp at this;exact bX 0x711501167136510 rfl g this
 have e:bu p.length (A (p.length+(A 0).len+aI B)::B)=P++([.br s (p.length+(A 0).len+aI B)]++bu (p.length+(A 0).len) B):=by
  rw[fH,H,append_assoc,r (_+_)]
 exact rX e (rX fD (rX fD (eQ (eP _) (eQ (.cons (vu (aS y 4) (gm g)) .nil) (eP _)))))
def yQ(h:m<=j)(e:J[j]?=some (.list [.str cv,.int u,.none,.none])):Fz J m (.lst j) (aV (.aM u)):=.lst h e (g6 ⟨ai,ai,ai,ai,ai⟩)
def tx(H:q.length<=900)(h:K .none (fq b (q++[x]) ca k t)):eG .append (.lst 1) [x] (fq b q ca k t) K:=iH rfl (iC H (by decide)) rfl h
def JW(f:j1 (d+5) dp)(g:b.ok (2*NN dp+n+3))(x:p.length+2*LL dp+20<=800)(V:ca.length<=p.length)(z:b.s=b0.s)(h:PQ b0 n p ca k t (dp+1) Q):lK (run (d+5)) (CX (dp+1) 11 none none none none) (fq b p ca k t) (eN (fin (fq b0 p ca k t) Q)):=by
 refine mP (nl rfl)<|qh (ns:=[9,10,11]) (ub rfl)<|iT rfl<|Fs (n:=NN dp+(NN dp+n)) (g.le (ln2 0x316523003165050010 rfl)) (ln2 0x32020142623500113842510 rfl x) λP s a u A b1 X i y j D m o g E=>?_;refine f (ic _) g (by refine rX y ?_;exact bX 0x61611320201427235001132027650010 rfl x j) (rX y (cb V)) λB cs Y b2 hne G g L=>?_;rw[y]at G⊢;have S:=jR G;have v:(p++P.map aV++[MV.lst (u+4)]++(bu (p.length+(A 0).len) B).map aV).length=p.length+(A 0).len+aI B:=by refine rX c9 ?_;refine rX y ?_;refine rX cX ?_;rw[fi]
 have H:(p++P.map aV++[MV.lst (u+4)]++(bu (p.length+(A 0).len) B).map aV++[MV.lst (u+1+4)]).length=p.length+(A 0).len+aI B+1:=by exact rX c9 (rX v rfl)
 refine xE (eY m) rfl<|dz rfl<|tx (lS 0x9860051379116181132020142723600113842510 rfl x j S.1 v)<|ed rfl<|qY m (nl rfl) (nl rfl) ?_;refine rX H ?_;refine f (ic _) g (by refine rX H ?_;exact gf 0x87116161132020142823500113202811765000010 rfl x j S.1) (rX H (rX c9 (rX cX (lS 0x961175111198700065010 rfl V S.2)))) λc C k2 b3 W r g N=>?_;rw[H]at r⊢;refine ed rfl<|uy (eY m) (nl rfl) (nl rfl) ?_;have T:(p++P.map aV++[MV.lst (u+4)]++(bu (p.length+(A 0).len) B).map aV++[MV.lst (u+1+4)]++(bu (p.length+(A 0).len+aI B+1) c).map aV).length=p.length+(A 0).len+aI B+1+aI c:=by refine rX c9 ?_;refine rX H ?_;refine rX cX ?_;rw[fi]
 refine rX T ?_
 refine tw (p1 (p1 (p1 p0 |>.trans o))) (l:=P.map aV++([MV.lst (u+4)]++((bu (p.length+(A 0).len) B).map aV++([MV.lst (u+1+4)]++(bu (p.length+(A 0).len+aI B+1) c).map aV))))
  (by simp only[append_assoc]) ?_ (by refine rX fD ?_;rw[append_assoc]) (mO _) (h _ (cs++C) k2 b3 (aN _ _) (.ua dp _ k A _ _ B c cs C Y k2 X G rfl r rfl) g ((N.trans (L.trans E)).trans z))
 have w:t.length<=u:=by have:=o.length_le;simp at this;exact bX 0x711501167136510 rfl m this
 have e:bu p.length (A (p.length+(A 0).len+aI B+1)::(B++.jj (p.length+(A 0).len+aI B+1+aI c)::c))=P++([.br s (p.length+(A 0).len+aI B+1)]++(bu (p.length+(A 0).len) B++([.aM (p.length+(A 0).len+aI B+1+aI c)]++bu (p.length+(A 0).len+aI B+1) c))):=by
  rw[fH,i,append_assoc,D (_+1),fS];rfl
 exact rX e (rX fD (rX fD (rX fD (rX fD (eQ (eP _) (eQ (.cons (vu (aS w 4) (gm m)) .nil) (eQ (eP _) (eQ (.cons (yQ (bt (aS w _) (aE _)) (ub (eY m))) .nil) (eP _)))))))))
end
section
variable{b0:Bk}
def JX(f:j1 (d+5) dp)(g:b.ok (NN dp+n+3))(v:p.length+2*LL dp+20<=800)(G:ca.length<=p.length)(w:b.s=b0.s)(h:PQ b0 n p ca k t (dp+1) Q):lK (run (d+5)) (CX (dp+1) 10 none none none none) (fq b p ca k t) (eN (fin (fq b0 p ca k t) Q)):=by
 refine mP (nl rfl)<|qh (ns:=[9,10,11]) (ub rfl)<|iT rfl<|Fs g (ln2 0x32020142623500113842510 rfl v) λP s a u A b1 L H r i x c j g y=>?_;refine f (ic _) g (by refine rX r ?_;exact bX 0x61611320201427235001132027650010 rfl v i) (rX r (cb G)) λB cs z b2 N C g D=>?_;rw[r]at C⊢;have m:(p++P.map aV++[MV.lst (u+4)]++(bu (p.length+(A 0).len) B).map aV).length=p.length+(A 0).len+aI B:=by refine rX c9 ?_;refine rX r ?_;refine rX cX ?_;rw[fi]
 have E:(p++P.map aV++[MV.lst (u+4)]++(bu (p.length+(A 0).len) B).map aV++[MV.lst (u+1+4)]).length=p.length+(A 0).len+aI B+1:=by exact rX c9 (rX m rfl)
 refine xE (eY c) rfl<|dz rfl<|tx (lS 0x9860051379116181132020142723600113842510 rfl v i (jR C).1 m)<|ed rfl<|qY c (nl rfl) (nl rfl)<|ed rfl<|uy (eY c) (nl rfl) (nl rfl) ?_;refine rX E ?_
 refine tw (p1 (p1 (p1 p0 |>.trans j))) (l:=P.map aV++([MV.lst (u+4)]++((bu (p.length+(A 0).len) B).map aV++[MV.lst (u+1+4)])))
  (by simp only[append_assoc]) ?_ (by rw[append_nil]) (mO _) (h _ (cs++[]) z b2 (aN _ _) (.ua dp _ k A _ _ B [] cs [] z z L C rfl (.nil ..) rfl) g ((D.trans y).trans w))
 have o:t.length<=u:=by have:=j.length_le;simp at this;exact bX 0x711501167136510 rfl c this
 have e:bu p.length (A (p.length+(A 0).len+aI B+1)::(B++.jj (p.length+(A 0).len+aI B+1)::[]))=P++([.br s (p.length+(A 0).len+aI B+1)]++(bu (p.length+(A 0).len) B++[.aM (p.length+(A 0).len+aI B+1)])):=by
  rw[fH,H,append_assoc,x (_+1),fS];rfl
 exact rX e (rX fD (rX fD (rX fD (eQ (eP _) (eQ (.cons (vu (aS o 4) (gm c)) .nil) (eQ (eP _) (.cons (yQ (bt (aS o _) (aE _)) (ub (eY c))) .nil)))))))
def JY(g:j1 (d+5) dp)(i:b.ok (NN dp+n+3))(r:p.length+2*LL dp+20<=800)(G:ca.length<=p.length)(v:b.s=b0.s)(h:PQ b0 n p ca k t (dp+1) Q):lK (run (d+5)) (CX (dp+1) 12 none none none none) (fq b p ca k t) (eN (fin (fq b0 p ca k t) Q)):=by
 refine mP (nl rfl)<|qh (ns:=[9,10,11]) (ub rfl)<|iF rfl<|Fs i (ln2 0x32020142623500113842510 rfl r) λP s a u A b1 L c C j w f m i x=>?_;have H:(p++P.map aV++[MV.lst (u+4)]++[MV.lst (u+1+4)]).length=p.length+(A 0).len+1:=by exact rX c9 (rX C rfl)
 refine xE (eY f) rfl<|dz rfl<|tx (gf 0x6181186051332020142723600113842510 rfl r C j)<|ed rfl<|qY f (nl rfl) (nl rfl) ?_;refine rX H ?_;refine g (ic _) i (by refine rX H ?_;exact bX 0x61611320201427235001132027116500010 rfl r j) (by refine rX H ?_;exact bX 0x6511117600510 rfl G) λB cs D b2 N E i y=>?_;rw[H]at E⊢;refine ed rfl<|uy (eY f) (nl rfl) (nl rfl) ?_;have z:(p++P.map aV++[MV.lst (u+4)]++[MV.lst (u+1+4)]++(bu (p.length+(A 0).len+1) B).map aV).length=p.length+(A 0).len+1+aI B:=by refine rX c9 ?_;refine rX H ?_;refine rX cX ?_;rw[fi]
 refine rX z ?_
 refine tw (p1 (p1 (p1 p0 |>.trans m))) (l:=P.map aV++([MV.lst (u+4)]++([MV.lst (u+1+4)]++(bu (p.length+(A 0).len+1) B).map aV)))
  (by simp only[append_assoc]) ?_ rfl (mO _) (h _ ([]++cs) D b2 (aN _ _) (.ua dp _ k A _ _ [] B [] cs k D L (.nil ..) rfl E rfl) i ((y.trans x).trans v))
 have o:t.length<=u:=by have:=m.length_le;simp at this;exact bX 0x711501167136510 rfl f this
 have e:bu p.length (A (p.length+(A 0).len+1)::([]++.jj (p.length+(A 0).len+1+aI B)::B))=P++([.br s (p.length+(A 0).len+1)]++([.aM (p.length+(A 0).len+1+aI B)]++bu (p.length+(A 0).len+1) B)):=by
  rw[fH,c,append_assoc];refine rX (w (_+1)) ?_;rfl
 exact rX e (rX fD (rX fD (rX fD (eQ (eP _) (eQ (.cons (vu (aS o 4) (gm f)) .nil) (eQ (.cons (yQ (bt (aS o _) (aE _)) (ub (eY f))) .nil) (eP _)))))))
def aaq{i:Int}{t:Nat}{J:MH}(H:i=t)(h:Q (aV (.aM t)) J):call (run (d+1)) 58 [.str cv,.int i] J Q:=by subst H;exact dT (.aM t) rfl ⟨ai,ai,ai⟩ h
def uz(h:K (.int m) (fq b q r m U)):f6 (.lst 3) (.int 2) (fq b q r m U) K:=aT rfl rfl rfl h
def As{os:List MV}(H:U.length=u)(a:q.length<=900)(c:os.length<=100)(h:K .none (fq b (q++os) ca k (U++[.list os]))):eG .extend (.lst 1) [.lst (u+4)] (fq b q ca k (U++[.list os])) K:=
 Fo (Nat.ne_of_beq_eq_false rfl) rfl (ub H) (rX c9 (Fp (av a) (av c))) rfl h
def JZ(c:j1 (d+5) dp)(j:b.ok (NN dp+n))(i:p.length+2*LL dp+20<=800)(w:ca.length<=p.length)(m:b.s=b0.s)(h:PQ b0 n p ca k t (dp+1) Q):lK (run (d+5)) (CX (dp+1) 13 none none none none) (fq b p ca k t) (eN (fin (fq b0 p ca k t) Q)):=by
 refine mP (nl rfl)<|qh (ns:=[9,10,11]) (ub rfl)<|iF rfl<|uz (uz (ja rfl rfl (nl rfl) (nl rfl) rfl<|hZ rfl ?_));have H:(t++[MC.list ([9,10,11].map er)]).length=t.length+1:=by simp
 refine dT (.push .tt) rfl ⟨ai,ai,ai⟩<|dT (.a8 k) rfl ⟨ai,ai,ai,ai⟩<|dT (.aL k) rfl ⟨ai,ai,ai,ai⟩<|xE H rfl<|gO (eY H) (nl rfl) ?_;refine As (eY H) (ln2 0x32020142623500113842510 rfl i) (nl rfl) ?_;have f:(p++[aV (.push .tt),aV (.a8 k),aV (.aL k),.lst (t.length+1+4)]).length=p.length+4:=by simp
 refine vt (l:=p++[aV (.push .tt),aV (.a8 k),aV (.aL k)]) rfl (by rw[append_assoc];rfl)<|ed rfl<|hZ rfl<|dT (.push .none) rfl ⟨ai,ai,ai⟩<|dT (.a8 k) rfl ⟨ai,ai,ai,ai⟩<|gO (eY (eY H)) (nl rfl) ?_;refine As (os:=[O.push .none,.a8 k].map aV) (eY (eY H)) (by refine rX f ?_;exact ln2 0x32020142623500113842415010 rfl i) (nl rfl) ?_;have a:(p++[aV (.push .tt),aV (.a8 k),aV (.aL k),.lst (t.length+1+4)]++[O.push .none,.a8 k].map aV).length=p.length+6:=by simp
 refine c (ic _) j (by refine rX a ?_;exact ln2 0x3202014262350011320266150010 rfl i) (rX a (cb w)) λB cs v b2 x o j r=>?_;rw[a]at o⊢;have g:(p++[aV (.push .tt),aV (.a8 k),aV (.aL k),.lst (t.length+1+4)]++[O.push .none,.a8 k].map aV++(bu (p.length+6) B).map aV).length=p.length+6+aI B:=by refine rX c9 ?_;refine rX a ?_;refine rX cX ?_;rw[fi]
 refine dz rfl<|aaq (by refine rX f ?_;exact Int.add_sub_cancel ((_+2:Nat):Int) 2)<|tx (gf 0x861600513781132020142723600113842510 rfl i (jR o).1 g)<|ed rfl ?_;have u:(p++[aV (.push .tt),aV (.a8 k),aV (.aL k),.lst (t.length+1+4)]++[O.push .none,.a8 k].map aV++(bu (p.length+6) B).map aV++[aV (.aM (p.length+2))]).length=p.length+6+aI B+1:=by exact rX c9 (rX g rfl)
 refine rX u ?_;refine yP H (by rw[append_assoc];rfl) (nl rfl) (nl rfl) ?_
 refine tw (p1 (p1 (p1 p0))) (l:=[aV (.push .tt),aV (.a8 k),aV (.aL k)]++([MV.lst (t.length+1+4)]++([O.push .none,.a8 k].map aV++((bu (p.length+6) B).map aV++[aV (.aM (p.length+2))]))))
  (by simp) ?_ rfl (mO cs) (h _ cs v b2 (aN _ _) (.loop dp _ k _ B cs v o rfl) j (r.trans m))
 have e:bu p.length (.st [.push .tt,.a8 k]::.hd k (p.length+6+aI B+1)::(B++[.jj (p.length+2)]))=[.push .tt,.a8 k,.aL k]++([.br false (p.length+6+aI B+1)]++([.push .none,.a8 k]++(bu (p.length+6) B++[.aM (p.length+2)]))):=by
  rw[fH,fH,fS];rfl
 exact rX e (rX fD (rX fD (rX fD (rX fD (eQ (eP [O.push .tt,.a8 k,.aL k]) (eQ (.cons (vu (aE (List.length t+4)) (gm H)) .nil) (eQ (eP _) (eQ (eP _) (eP [O.aM _])))))))))
end
def SJ{os:List O}:(p++os.map aV).length=p.length+os.length:=by simp
section
variable{b0:Bk}
def aar(H:r.length<=900)(h:K .none (fq b q (r++[x]) k T)):eG .append (.lst 2) [x] (fq b q r k T) K:=iH rfl (iC H (by decide)) rfl h
def aas{os:List MV}(H:q.length<=900)(a:os.length<=100)(h:K .none (fq b (q++os) ca k T)):eG .extend (.lst 1) [.aQ os] (fq b q ca k T) K:=
 JI rfl (rX c9 (Fp (av H) (av a))) rfl h
def ifC(H:z=bif r then x else y)(h:Q z J):uZ (eC x) (eC y) af Q r J:=by subst H;cases r<;>exact h
def Xm{t:Nat}:MV.str (Ct.sort ⟨r,f,l,t⟩)=bif r then .str l_ else .str ma:=by cases r<;>rfl
def openK(h:m<=j)(e:J[j]?=some (.list l))(H:l=[.str c.sort,.int c.first,.int c.last,.int c.target,.int 0]):Fz J m (.lst j) (lg c):=by subst H;exact .lst h e (g6 ⟨ai,ai,ai,ai,ai,ai⟩)
def J0(p:Nat)(os:List O)(b:List cZ):bu p (.st os::b)=os++bu (p+os.length) b:=by
 rw[fH];show(Xi os).map R.o++_=_;rw[CV];rfl
def J1(p t:Nat)(b:List cZ):bu p (.jj t::b)=[.aM t]++bu (p+1) b:=fH _ _ _
def tA{cs:List Ct}{l:List MV}{b2:Bk}(g:q'=p++(bu p.length (bs++bm)).map aV++([MV.lst (u+4)]++(O.a8 k::.self::.aL j::.send false::.pop::.aL k::hd).map aV))(i:r'=ca++cs.map lg++[.lst (u+1+4)])(a:T.length=u)(f:t<+:T)(o:b2.ok n)(v:b2.s=b0.s)(b:bs≠[])(w:Piece dp p.length (k+1) bs cs k1)(x:vr bm)(y:p.length+aI (bs++bm)=N)
 (z:Hand k (.a8 k::.self::.aL j::.send false::.pop::.aL k::hd))(A:e=N+7+hd.length)(B:l=[.str (Ct.sort ⟨r,p.length,N,N+1⟩),.int p.length,.int N,.int (N+1:Nat),.int 0])(h:PQ b0 n p ca k t (dp+1) Q):
 fin (fq b0 p ca k t) Q .none (fq b2 q' r' k1 ((T++[.list [.str cv,.int e,.none,.none]])++([.list l]++G))):=by
 subst g i;have H:t.length<=u:=by exact rX a.symm (f.length_le)
 have d:(.a8 k::.self::.aL j::.send false::.pop::.aL k::hd:List O).length=6+hd.length:=by simp;exact Eq.symm (Nat.add_comm 6 hd.length)
 refine tw (p1 (p1 f)) (l:=(bu p.length (bs++bm)).map aV++([MV.lst (u+4)]++(O.a8 k::.self::.aL j::.send false::.pop::.aL k::hd).map aV))
  (by simp) ?_ (m:=cs.map lg++[.lst (u+1+4)]) (by simp) ?_
  (h _ _ k1 b2 (by simp) (.eO dp _ k r N e bs bm _ cs k1 b w x y.symm z (by refine rX A (rX d ?_);exact ln2 0x66101150067150012 rfl)) o v)
 ·have E:bu p.length (bs++bm++[.jj e,.st (.a8 k::.self::.aL j::.send false::.pop::.aL k::hd)])=bu p.length (bs++bm)++([.aM e]++(.a8 k::.self::.aL j::.send false::.pop::.aL k::hd)):=by
   rw[fS,J1,J0];refine rX (show bu _ ([]:List cZ)=[] from rfl) ?_;rw[append_nil]
  exact rX E (rX fD (rX fD (eQ (eP _) (eQ (.cons (yQ (aS H 4) (gm a)) .nil) (eP _)))))
 ·refine rX fD ?_;refine eQ (mO _) (.cons (openK (ln2 0x65114111600415010 rfl H) ?_ B) .nil);have:=gm (x0:=b2.c) (x1:=.list (p++(bu p.length (bs++bm)).map aV++([MV.lst (u+4)]++(O.a8 k::.self::.aL j::.send false::.pop::.aL k::hd).map aV))) (x2:=.list (ca++cs.map lg++[.lst (u+1+4)])) (x3:=JU k1) (G:=G) (c:=.list l) (eY (c:=.list [.str cv,.int e,.none,.none]) a);rw[append_assoc (T++_)]at this;exact this
def tB{cs:List Ct}(g:T.length=u)(E:t<+:T)(A:b.ok (n+1))(m:b.s=b0.s)(o:bs≠[])(G:Piece dp p.length (k+1) bs cs k1)(L:vr bm)(B:p.length+aI (bs++bm)=N)(i:N<=800)(C:q=p++(bu p.length (bs++bm)).map aV)(v:r0=ca++cs.map lg)(D:r0.length<=900)
 (h:PQ b0 n p ca k t (dp+1) Q):Jb (run (d+5)) [some (.lst 0),some (.lst 3),some (.int (dp+1:Nat)),some (.bool r),some (.lst 1),some (.int p.length),some (.int k),abp] (fq b q r0 k1 T) (eN (fin (fq b0 p ca k t) Q)):=by
 have x:q.length=N:=by refine rX C ?_;refine rX SJ ?_;rw[fi];exact B
 have a:(q++[MV.lst (u+4)]).length=N+1:=by exact rX c9 (rX x rfl)
 have e:∀c:MC,(T++[c]).length=u+1:=λc=>eY g;refine xE g rfl<|dz rfl<|tx (ln2 0x651332026113842510 rfl i x) ?_;refine aT rfl rfl rfl<|dz rfl<|ifC (Xm (f:=p.length) (l:=N) (t:=N+1))<|ed rfl<|ed rfl ?_;refine rX a ?_;refine gO (e _) (nl rfl)<|aar D ?_;refine dz rfl<|dT (.a8 k) rfl ⟨ai,ai,ai,ai⟩<|tx (by refine rX a ?_;exact et 0x32025113842115010 rfl i) ?_;have y:(q++[MV.lst (u+4)]++[aV (.a8 k)]).length=N+2:=by exact rX c9 (rX a rfl)
 refine hZ rfl<|s60 A λj b2 P A w=>aas (by refine rX y ?_;exact et 0x32025113842215010 rfl i) (nl rfl) ?_;have z:(q++[MV.lst (u+4)]++[aV (.a8 k)]++[O.self,.aL j,.send false,.pop].map aV).length=N+6:=by exact rX c9 (rX y rfl)
 refine dz rfl<|dT (.aL k) rfl ⟨ai,ai,ai,ai⟩<|tx (by refine rX z ?_;exact et 0x32025113842615010 rfl i) ?_;have H:(q++[MV.lst (u+4)]++[aV (.a8 k)]++[O.self,.aL j,.send false,.pop].map aV++[aV (.aL k)]).length=N+7:=by exact rX c9 (rX z rfl)
 cases r with
 |true=>
  refine hZ rfl<|dT .eO rfl ⟨ai,ai⟩<|dT (.a8 0) rfl ⟨ai,ai,ai,ai⟩<|gO (eY (e _)) (nl rfl)<|As (eY (e _)) (by rw[H];exact et 0x32025113842715010 rfl i) (nl rfl)<|ed rfl ?_;refine rX c9 (rX H ?_);refine yP g (by simp only[append_assoc];rfl) (nl rfl) (nl rfl) ?_;exact tA (by refine rX C ?_;simp) (by rw[v]) g E (A.le di) (w.trans m) o G L B (.tv j P) rfl (rX (ic N) rfl) h
 |false=>
  refine dz rfl<|dT .again rfl ⟨ai,ai⟩<|tx (by rw[H];exact et 0x32025113842715010 rfl i)<|ed rfl ?_;refine rX c9 (rX H ?_);refine yP g (by simp only[append_assoc];rfl) (nl rfl) (nl rfl) ?_;exact tA (by refine rX C ?_;simp) (by rw[v]) g E (A.le di) (w.trans m) o G L B (.Xl j P) rfl (rX (ic N) rfl) h
end
section
variable{b0:Bk}
def s65{r:Bool}{i:Int}(y:i=(dp+1:Nat))(a:j1 (d+5) dp)(H:b.ok (NN dp+(n+5)))(c:p.length+2*LL dp+20<=800)(w:ca.length<=p.length)(h:PQ b n p ca k t (dp+1) Q):call (run (d+6)) 65 [.lst 0,.lst 3,.int i,.bool r] (fq b p ca k t) Q:=by
 subst y;refine dr (af:=[some (.lst 0),some (.lst 3),some (.int (dp+1:Nat)),some (.bool r),none,none,none,none]) rfl rfl<|aT rfl rfl rfl<|aT rfl rfl rfl<|ed rfl<|uz<|ja rfl rfl (nl rfl) (nl rfl) rfl ?_;refine a (ic _) H (ln2 0x3202014262350011320265010 rfl c) w λB cs A b1 e s H f=>?_;have l:=jR s;have v:(p++(bu p.length B).map aV).length=p.length+aI B:=by refine rX SJ ?_;rw[fi]
 have m:(ca++cs.map lg).length<=900:=by exact rX c9 (rX cX (lS 0x9611891175113202014282370011384265010 rfl c w l.1 l.2))
 refine kG 3 (nl rfl) (nl rfl) (H.le (Nat.le_refl (n+4+1))) λj b2 C H g=>?_;cases o:decide ((0:Int)<(j:Nat))with
 |false=>exact iF o<|tB rfl p0 (H.le (bU (Nat.succ_pos _))) (g.trans f) e s .none (by rw[append_nil]) (by exact bX 0x76113202014272350011320265010 rfl c l.1) (by rw[append_nil]) rfl m h
 |true=>
  refine iT o<|hZ rfl<|dT .self rfl ⟨ai,ai⟩<|JH H λx b3 z H u=>dT (.push x) rfl ⟨ai,nz x,ai⟩<|dT (.send true) rfl ⟨ai,ai,ai,⟨ai,ai,ai⟩,ai⟩<|dT .pop rfl ⟨ai,ai⟩<|gO rfl (nl rfl)<|
   As rfl (by refine rX v ?_;exact bX 0x76113202014272350011384265010 rfl c l.1) (nl rfl) ?_
  refine tB rfl (p1 p0) (H.le (bU (Nat.succ_pos _))) (u.trans (g.trans f)) e s (.some x z) rfl (by rw[bQ];exact bX 0x76113202014272350011320201410605010 rfl c l.1) ?_ rfl m h;rw[fS,fD,append_assoc];rfl
def Au(g:w=14/\r=true\/w=15/\r=false)(H:j1 (d+5) dp)(i:b.ok (NN dp+(n+5)))(j:p.length+2*LL dp+20<=800)(l:ca.length<=p.length)(e:b.s=b0.s)(h:PQ b0 n p ca k t (dp+1) Q):lK (run (d+6)) (CX (dp+1) w none none none none) (fq b p ca k t) (eN (fin (fq b0 p ca k t) Q)):=by
 have f:∀{q:QV},PQ b n p ca k (t++[MC.list ([9,10,11].map er)]) (dp+1) q->call (run (d+6)) 65 [.lst 0,.lst 3,.int (dp+1:Nat),.bool r] (fq b p ca k (t++[MC.list ([9,10,11].map er)])) q:=λm=>s65 rfl H i j l m;have fin:∀(B:List cZ) (cs:List Ct) (c:Nat) (a:Bk),B≠[]->Piece (dp+1) p.length k B cs c->a.ok n->a.s=b.s->fin (fq b0 p ca k t) Q .none (fq a (p++(bu p.length B).map aV) (ca++cs.map lg) c (t++[MC.list ([9,10,11].map er)])):=λB cs c a o u v x=>tw (p1 p0) rfl (eP _) rfl (mO _) (h B cs c a o u v (x.trans e));rcases g with⟨rfl,rfl⟩|⟨rfl,rfl⟩<;>exact mP (nl rfl)<|qh (ns:=[9,10,11]) (ub rfl)<|iF rfl<|f fin
def aat{i:Int}(c:i=(0:Nat))(H:b.ok (NN 0+n))(e:p.length<=800)(h:PQ b n p ca k t 0 Q):call (run (d+6)) 64 [.lst 0,.lst 3,.int i] (fq b p ca k t) Q:=by
 subst c;refine dr rfl rfl<|aT rfl rfl rfl<|kG 9 (nl rfl) (nl rfl) (H.le (by show n+9+1<=10+n;exact et 0x5a10119150010 rfl)) λw b1 f H a=>?_;exact xF f (H.le (bg (aR rfl) _)) (av e) a h
def aau{i:Int}(H:j1 (d+6) dp)(f:j1 (d+5) dp)(o:i=(dp+1:Nat))(g:b.ok (NN (dp+1)+n))(j:p.length+LL (dp+1)<=800)(l:ca.length<=p.length)(h:PQ b n p ca k t (dp+1) Q):call (run (d+7)) 64 [.lst 0,.lst 3,.int i] (fq b p ca k t) Q:=by
 subst o;refine dr (af:=[some (.lst 0),some (.lst 3),some (.int (dp+1:Nat)),none,none,none,none,none,none]) rfl rfl<|aT rfl rfl rfl<|iT (bA (Int.ofNat_succ_pos dp))<|kG 16 (nl rfl) (nl rfl) (g.le (bx (Nat.add_right_comm _ _ _))) λw b1 c g a=>?_;by_cases m:w<9
 ·exact xF m (g.le (ln2 0x501d262300315010 rfl)) (ln2 0x32020142623500113842510 rfl j) a h
 exact es c (λc=>es c (λc=>es c (λc=>es c (λc=>es c (λc=>es c (λc=>es c (λc=>ak c m) λe=>by subst e;exact Pl H (g.le (ln2 0x601d25230031650010 rfl)) j l a h) λe=>by subst e;exact JX H (g.le (ln2 0x601d25230031650010 rfl)) j l a h) λe=>by subst e;exact JW H (g.le (ln2 0x601d2523003165230010 rfl)) j l a h) λe=>by subst e;exact JY H (g.le (ln2 0x601d25230031650010 rfl)) j l a h) λe=>by subst e;exact JZ H (g.le (ln2 0x601d25230065010 rfl)) j l a h) λe=>by subst e;exact Au (.inl ⟨rfl,rfl⟩) f (g.le (ln2 0x601d25230051605010 rfl)) j l a h) λe=>by subst e;exact Au (.inr ⟨rfl,rfl⟩) f (g.le (ln2 0x601d25230051605010 rfl)) j l a h
def j1.to(e:a=c)(h:j1 a dp):j1 c dp:=e▸h
theorem J2:∀(dp d:Nat),j1 (2*dp+6+d) dp
 |0=>λd=>λH a b c h=>by exact rX (show 2*0+6+d=d+6 by exact Nat.add_comm (2*0+6) d) (aat H a (Nat.le_of_add_right_le b) h)
 |dp+1=>λd=>λH a b c h=>by
  exact rX (show 2*(dp+1)+6+d=(2*dp+1+d)+7 by exact Eq.symm (Nat.add_right_comm (2*dp+1) d 7)) (aau (j1.to (ln2 0x616115230001160615230012 rfl) (@J2 dp (d+1))) (j1.to (Eq.symm (Nat.add_right_comm (2*dp+1) d 5)) (@J2 dp d)) H a b c h)
end
def J3{K:QK}(h:w.lC J λZ J=>K .next af J):kp w tg body 0 i af J K:=by unfold kp;exact h
def CY(h:w.item i J λx J=>jP af x tg J λaf J=>body af J (kFor K λaf J=>kp w tg body n (i+1) af J K)):kp w tg body (n+1) i af J K:=by
 have:(λaf J=>kp w tg body n (i+1) af J K)=λaf J=>forR w tg body n (i+1) af J K:=by funext af J;unfold kp;rfl
 have h:=this▸h;unfold kp;exact h
noncomputable def KK:Nat->Nat|0=>0|d+1=>2*KK d+1
def CZ{b cs a}(h:Piece dp p k b cs a):a<=k+KK dp:=by
 induction h with
 |nil=>exact ln2 6620432 rfl
 |simple=>exact ln2 6620432 rfl
 |if1 d p k A t b cs a _ _ _ i=>show _<=_+(2*KK d+1);exact bX 0x76051111723060510 rfl i
 |ua d p k A q e b1 b2 c1 c2 g k2 _ _ _ _ _ c f=>show _<=_+(2*KK d+1);exact gf 0x78051176081111723060510 rfl c f
 |loop d p k e b cs a _ _ i=>show _<=_+(2*KK d+1);exact bX 0x71160051111723060510 rfl i
 |eO d p k r q e b B h cs a _ _ _ _ _ _ i=>show _<=_+(2*KK d+1);exact bX 0x71160051111723060510 rfl i
def J4:∀k<20,(TQ.length+(Str.ofString (toString ((k:Nat):Int))).length<=cL)/\Str.ofString (toString ((k:Nat):Int))=Str.ofString (toString k):=by
 decide+kernel
def xG{cs:List Ct}(H:T.length=u)(t:k<=20)(A:st.length<=10)(v:b.ok (n+1))(a:aI bs<=300)(w:cs.length<=300)
 (h:∀(j:Nat) (B:Bk),j<2->B.ok n->B.s=b.s->Q (PC.mv ⟨flat 0 (bs++[.st [.aL j,.leave]]),cs,st,k⟩) (J.set i B.c)):
 Jc (run (d+1)) [some (.lst 0),some (.lst 3),abq,abr,some (.lst (u+4)),abt,none,none,none,none,none,none,none,none,none,none,none,none] (fq b ((bu 0 bs).map aV) (cs.map lg) k (T++[.list (st.map er)])) (eN (u6 J i Q)):=by
 have x:((bu 0 bs).map aV).length=aI bs:=by refine rX cX ?_;rw[fi]
 refine aT rfl rfl rfl<|hZ rfl<|kG 2 (nl rfl) (nl rfl) v λj b1 C v D=>?_;refine dT (.aL j) rfl ⟨ai,ai,ai,ai⟩<|dT .leave rfl ⟨ai,ai⟩<|gO (eY H) (nl rfl)<|As (eY H) (by refine rX x ?_;exact av a) (nl rfl) ?_
 have l:(bu 0 bs).map aV++[O.aL j,.leave].map aV=(flat 0 (bs++[.st [.aL j,.leave]])).map (λr=>aV r.o):=by
  refine rX fD.symm ?_;rw[kH];refine rX fD ?_;refine rX fD ?_;exact rX (show(flat 0 bs).map (λr=>aV r.o)=(bu 0 bs).map aV from(map_map (g:=aV)).symm) rfl
 refine rX l ?_;refine aT rfl rfl rfl<|f' rfl<|comp_map R.mv (.live rfl) (λr E S e=>fQ rfl (s1 _ _ _ _ _ e)) ?_;have y:(flat 0 (bs++[.st [.aL j,.leave]])).length<=310:=by rw[o6,bQ];exact bt (aS a _) (a5 _ _)
 refine gO (eY (eY H)) (ml (bt y (by decide)))<|aT rfl rfl rfl<|f' rfl<|comp_map Ct.mv (.live rfl) (λr E S e=>fQ rfl (s3 _ _ _ _ _ e)) ?_;refine gO (eY (eY (eY H))) (ml (bt w (by decide))) ?_;refine uz<|lX rfl (by have:(cL:Int)=1000000:=rfl;exact Int.neg_natCast_le_natCast cL k) (by have:(cL:Int)=1000000:=rfl;lia)<|comp_map qf (.vals _) (λm z S e=>?_) ?_
 ·have:=J4 m (by have:=mem_range.1 z;exact i7 this t);refine fR (i7 (by have:=mem_range.1 z;exact i7 this t) (by decide))<|fR this.1 ?_;exact rX this.2 e
 have p:=eY (c:=.list (cs.map Ct.mv)) (eY (c:=.list ((flat 0 (bs++[.st [.aL j,.leave]])).map R.mv)) (eY (c:=.list ([O.aL j,.leave].map aV)) (eY (c:=.list (st.map er)) H)));refine gO p (ml (rX length_range (bt t (by decide))))<|gO (eY p) (nl rfl)<|cl rfl rfl (.inl ?_);refine⟨PC.mv ⟨flat 0 (bs++[.st [.aL j,.leave]]),cs,st,k⟩,_,.obj (.cons (.pure ai) (.cons (.pure ai) (.cons (.pure ai) (.cons (.lst (a5 1 (u+7)) ?_ (g6 (eU (f:=qf) (λZ=>ai) _))) (.cons (.lst (a5 1 (u+5)) ?_ (g6 (eU kh _))) (.cons (.lst (a5 1 (u+6)) ?_ (g6 (eU (f:=Ct.mv) (λZ=>⟨ai,ai,ai,ai,ai,ai⟩) _))) (.cons (.lst (a5 1 (u+8)) ?_ .nil) (.cons (.lst (a5 1 (u+3)) ?_ (g6 (eU (f:=er) (λZ=>ai) _))) (.cons (.pure ai) .nil))))))))),dB _,rfl,⟨ai,ai,ai,ai,ai⟩,h j b1 C v D⟩
 all_goals simp[H]
def Xo(h:dp<=2):LL dp<=100/\NN dp<=130/\KK dp<=3:=by
 have:=p_ (Nat.lt_succ_of_le h);rcases this with rfl|rfl|rfl<;>exact⟨nl rfl,nl rfl,nl rfl⟩
section
variable{dp:Nat}
def J5(b:Bk)(J:MH)(i:Nat)(Q:QV):Prop:=∀(c:PC) (a:List cZ) (B:Bk),Gen c a->B.ok 20->B.s=b.s->Q c.mv (J.set i B.c)
def gp{m:Nat}{b0:Bk}(S:m=1\/m=2)(w:dp<=2)(L:b.ok 350)(y:b.s=b0.s)(h:J5 b0 J i Q):
 Jd (run (d+11)) [some (.lst 0),some (.lst 3),some (.int m),some (.int dp),some (.lst 4),x,none,none,none,none,none,none,none,none,none,none,none,none] (fq b [] [] 2 [.list [.int 0]]) (eN (u6 J i Q)):=by
 have t:=(Xo w).1;have G:=(Xo w).2.1;have P:=(Xo w).2.2;have a:j1 (d+11) dp:=j1.to (ig (av (bt (Nat.mul_le_mul_left 2 w) (by decide)))) (J2 dp (d+5-2*dp));rcases S with rfl|rfl
 ·refine lX rfl (Ap rfl) (Ap rfl)<|CY<|fQ rfl<|aY (nl rfl)<|aT rfl rfl rfl<|ed rfl<|aY (nl rfl)<|f' rfl<|qe 0 rfl<|aY (nl rfl)<|f' rfl<|f' rfl<|aY (nl rfl) ?_;refine a (n:=21) rfl (L.le (bt (aS G _) (a5 _ _))) (by show 0+_<=_;exact et 0x6425113202501010 rfl t) di λB cs k b1 e f g l=>?_;have c:=jR f;refine J3<|xG rfl (by have:=CZ f;exact ln2 0x6210511316110142510 rfl P this) (nl rfl) g (ln2 0x6511064261112c2510 rfl t c.1) (bX 0x75116711064261112c2510 rfl t c.1 c.2) λj b2 A o p=>h _ _ b2 (.one dp k j B cs w A e f) o (p.trans (l.trans y))
 ·refine lX rfl (Ap rfl) (Ap rfl)<|CY<|fQ rfl<|aY (nl rfl)<|aT rfl rfl rfl<|ed rfl<|aY (nl rfl)<|f' rfl<|qe 0 rfl<|aY (nl rfl)<|f' rfl<|f' rfl<|aY (nl rfl) ?_;refine a (n:=190) rfl (L.le (bt (aS G _) (a5 _ _))) (by show 0+_<=_;exact et 0x6425113202501010 rfl t) di λB cs k b1 e f g l=>?_;have c:=jR f;have z:([]++(bu ([]:List MV).length B).map aV).length=aI B:=by rw[nil_append,cX,fi]
  refine CY<|fQ rfl<|gO rfl (nl rfl)<|aT rfl rfl rfl<|ed rfl<|gO rfl (nl rfl)<|f' rfl<|qe 1 rfl<|gO rfl (nl rfl)<|f' rfl<|f' rfl<|gO (u:=8) rfl (nl rfl) ?_;refine rX z ?_;refine a (n:=21) rfl (g.le (bt (aS G _) (a5 _ _))) (by refine rX z ?_;exact ln2 0x65110642621320265010 rfl t c.1) (by refine rX z ?_;exact rX cX (c.2)) λr C k2 b2 N H o p=>?_;have H:=z▸H;have v:=jR H;have T:[]++(bu ([]:List MV).length B).map aV++(bu ([]++(bu ([]:List MV).length B).map aV).length r).map aV=(bu 0 (B++r)).map aV:=by refine rX z ?_;rw[fS,fD,aD];rfl
  have V:[]++cs.map lg++C.map lg=(cs++C).map lg:=by exact rX fD rfl
  refine rX T (rX V ?_);refine J3<|xG rfl (bX 0x6705116210711316210142510 rfl P (CZ f) (CZ H)) (nl rfl) o (by rw[bQ];exact bX 0x76117511064272112c265010 rfl t c.1 v.1) (by refine rX c9 ?_;exact lS 0x9611791185117811064272112c265010 rfl t c.1 c.2 v.1 v.2) λj b3 A D E=>h _ _ b3 (.two dp k k2 j B r cs C w A e f H) D (E.trans (p.trans (l.trans y)))
def s66(l:J[i]?=some b.c)(k:b.ok 400)(h:J5 b J i Q):call (run (d+12)) 66 [.lst i] J Q:=by
 refine c1r l ⟨ai,ai,ai,ai,ai⟩ rfl (λv n=>.inl (d5 n)) rfl rfl<|aY (nl rfl)<|aY (nl rfl)<|aY (nl rfl)<|aT rfl rfl rfl ?_;obtain⟨b0,b1,b2,s⟩:=b;cases s with
 |true=>exact aT rfl rfl rfl<|aY (nl rfl)<|gp (m:=2) (.inr rfl) (nl rfl) (k.le (nl rfl)) rfl h
 |false=>
  refine kG 2 (nl rfl) (nl rfl) (k.le (nl rfl:399+1<=400)) λj B o f e=>aT rfl rfl (congrArg (λs=>some (MV.bool s)) e)<|kG 4 (nl rfl) (nl rfl) (f.le (nl rfl:398+1<=399)) λw b2 p H g=>aY (nl rfl) ?_;have a:=g.trans e;have H:=H.le (nl rfl:350<=398);rcases(IL (by assumption))with rfl|rfl<;>rcases(en4 (by assumption))with rfl|rfl|rfl|rfl
  ·exact gp (m:=1) (dp:=2) (.inl rfl) (nl rfl) H a h
  ·exact gp (m:=1) (dp:=1) (.inl rfl) (nl rfl) H a h
  ·exact gp (m:=1) (dp:=1) (.inl rfl) (nl rfl) H a h
  ·exact gp (m:=1) (dp:=1) (.inl rfl) (nl rfl) H a h
  ·exact gp (m:=2) (dp:=2) (.inr rfl) (nl rfl) H a h
  ·exact gp (m:=2) (dp:=1) (.inr rfl) (nl rfl) H a h
  ·exact gp (m:=2) (dp:=1) (.inr rfl) (nl rfl) H a h
  ·exact gp (m:=2) (dp:=1) (.inr rfl) (nl rfl) H a h
end
def C0(a:Int)(m:Int)(h:0<m):0<=a.fmod m/\a.fmod m<m:=rX (Int.fmod_eq_emod_of_nonneg _ (Int.le_of_lt h)) (⟨Int.emod_nonneg a (Ne.symm (Int.ne_of_lt h)),Int.emod_lt_of_pos a h⟩)
section
variable{k:Nat}{jS:List Int}
def J6{C:Int}{bH:MH}(h:∀b:Bk,b.ok 500->Q (.lst bH.length) (bH++[b.c])):Cv (run d) [some (.aQ (jS.map .int)),some (.int k),some (.int C)] bH (eN (fin J Q)):=by
 refine fR ⟨by decide,by decide,by decide⟩<|fR ⟨by decide,by decide,by decide⟩<|fR (by decide)<|fR (by decide) ?_
 have a:∀s:Bool,newList [.int ((if C-10^18>0 then C-10^18 else 0).fmod (10^90)),.int (C.fmod 2147483629),.int 0,.bool s] bH (kR [some (.aQ (jS.map .int)),some (.int k),some (.int C)] (eN (fin J Q))):=λs=>
  aY (nl rfl) (.inl (h ⟨_,_,0,s⟩ ⟨(C0 (if C-10^18>0 then C-10^18 else 0) (10^90) (by decide)).1,(C0 C 2147483629 (by decide)).1,Int.lt_trans (C0 C 2147483629 (by decide)).2 (by decide),Int.le_refl _,Ap rfl⟩))
 exact cB (λZ=>a _) λZ=>a _
def Xp(h:newList (l.take k) J Q):slice (.aQ l) .none (.int k) J Q:=by
 have e:(l.take (min k l.length)).drop 0=l.take k:=by refine rX drop_zero ?_;exact take_eq_take_iff.2 (Nat.min_eq_left (Nat.min_le_right k l.length))
 with_unfolding_all refine⟨k,rfl,?_⟩
 show newList ((l.take (min k l.length)).drop 0) J Q;exact rX e h
def Pm:∀l:List Int,∃s,sumOf (l.map MV.int)=some s:=by
 intro m;induction m with
 |nil=>exact⟨0,rfl⟩
 |cons i l a=>exact let⟨s,h⟩:=a;⟨i+s,by refine rX map_cons ?_;show(match sumOf (l.map MV.int)with|some j=>some (i+j)|none=>none)=_;rw[h]⟩
def s56(h:∀(g:MH) (b:Bk),b.ok 500->Q (.lst (J++g).length) (J++g++[b.c])):call (run (d+1)) 56 [.aQ (jS.map .int),.int k] J Q:=by
 refine dr (af:=[some (.aQ (jS.map .int)),some (.int k),none]) rfl rfl ?_;have H:∀g (C:Int),Cv (run d) [some (.aQ (jS.map .int)),some (.int k),some (.int C)] (J++g) (eN (fin J Q)):=λg C=>J6 λb f=>h g b f;have a:=λC=>by have:=H [] C;rwa[append_nil]at this
 refine cB (λe=>?_) λe=>?_
 ·have e:k<jS.length:=by have:=of_decide_eq_true e;simp at this;exact this
  exact cV rfl (rX hW (rX (dv e) rfl)) (a _)
 ·refine fR (by decide) ?_;obtain⟨s,i⟩:=Pm (jS.take 1);exact Xp (k:=1)<|aY (bt (length_take_le ..) (nl rfl))<|f' (by simp)<|fQ i<|fR (by decide)<|H [_] _
end
def bh(p:Nat)(r:R):Option R:=match r.o.bo with
 |some t=>bif t==p+1 then(bif r.o.g7 then some ⟨.pop,r.g⟩else none)else some r
 |none=>some r
def cQ(c:PC):PC:=ay c (c.rows.zipIdx.map λx=>bh x.2 x.1)
def It.enum{l:List β}(g:β->MV):It (.enum (.vals (l.map g))) (l.zipIdx.map λx=>.tup [.int x.2,g x.1]) J:=by
 with_unfolding_all refine⟨by show(l.map g).length=_;simp,λi x Q e h=>?_,λZ h=>h⟩
 rw[hW,List.getElem?_zipIdx,Option.map_map]at e;obtain⟨y,H,rfl⟩:=Option.map_eq_some_iff.1 e;exact fQ (rX hW (rX H rfl)) (by exact rX ((aD i).symm) h)
def qZ{l:List α}(e:l.zipIdx=p++r::t):r.2=p.length/\p.length<l.length/\r.1∈l:=by
 have h:=congrArg (·[p.length]?) e;have H:=congrArg List.length e;simp[List.getElem?_zipIdx]at h H;obtain⟨a,b,rfl⟩:=h;exact⟨rfl,iC (ar _ _) (bx H.symm),gh b⟩
def Ft(x:Option R)(e:gj x=v)(H:o.length<=300)(E:o++[x]=o')(h:Q .none [.list (o'.map gj)]):eG .append (.lst 0) [v] [.list (o.map gj)] Q:=by
 subst e E;exact iH rfl (iC (ml H) (by decide)) (by exact rX fD rfl) h
def yR{a b:Nat}{c:Int}(h:c=b):((a:Int)==c)=(a==b):=by subst h;rw[Bool.eq_iff_iff,beq_iff_eq,beq_iff_eq];exact Int.ofNat_inj
def s49(l:Ok c)(h:Q (cQ c).mv J):call (run (d+4)) 49 [c.mv] J Q:=by
 refine fr (af:=[some c.mv,none,none,none]) rfl rfl ⟨dB c,ai⟩ (aY (by decide) ?_);refine d7 (f:=λx:R×Nat=>.tup [.int x.2,x.1.mv]) (λZ (x:Option MV×Option MV)=>[some c.mv,some (.lst 0),x.1,x.2]) (λp Z=>[.list ((p.map λx=>bh x.2 x.1).map gj)]) (none,none) (λZ Z=>.enum R.mv) (λp r t x P e g=>?_) rfl rfl λx=>?_
 ·obtain⟨r,i⟩:=r;have m:=(qZ e).1;have k:=(qZ e).2.1;have v:=(qZ e).2.2;obtain⟨w,H⟩:∃w,bh i r=w:=⟨_,rfl⟩;replace g:=Ft (Q:=λZ J=>P [some c.mv,some (.lst 0),some (.int i),some r.mv] J) w rfl (o:=p.map λx=>bh x.2 x.1) (by simp;exact ln2 0x651212c261112c2510 rfl l.n k) (by exact rX fD (rX H.symm rfl)) (g (_,_));refine fQ rfl (vm r.o _ ?_);unfold bh at H;obtain⟨m,k⟩|⟨j,m,k,v⟩:=r.o.js<;>unfold uZ<;>refine rX m ?_<;>rw[k]at H
  ·subst H;exact dz rfl g
  have s:=yR (a:=j) (b:=i+1) (c:=(i:Int)+1) rfl;show yv _ r.o.a (.int ((i:Int)+1)) _ _;refine rX v ?_;refine cB (λq=>?_) λq=>?_
  all_goals dsimp only at H;rw[s]at q;rw[q]at H
  ·refine dz rfl (ki kr (cB (λq=>?_) λq=>?_))<;>rw[q]at H<;>subst H
   ·exact s1 _ _ _ _ _ g
   ·exact g
  ·subst H;exact dz rfl g
 refine cz (CO:=[_,.aQ ((c.rows.zipIdx.map λx=>bh x.2 x.1).map gj)]) (bH:=[.jq _]) rfl rfl (Pg (o:=c.rows.zipIdx.map λx=>bh x.2 x.1) l (by simp) ?_ (d0 h (dB _)));intro r y t u;obtain⟨⟨q,i⟩,s,e⟩:=i4 y;have:=l.bo q (mem_map_of_mem (fst_mem_of_mem_zipIdx s));unfold bh at e;cases E:q.o.bo with
 |none=>rw[E]at e;obtain rfl:=aj e;exact this t u
 |some j=>
  rw[E]at e;dsimp only at e;cases z:j==i+1<;>rw[z]at e
  ·obtain rfl:=aj e;exact this t u
  ·cases A:q.o.g7<;>rw[A]at e<;>cases e;exact nn u
def rR(m:Nat->Bool)(o:List (Option R))(p:Nat):Bool:=Am o p O.fB&&(Am o (p+1) O.d9&&(Am o (p+2) O.gn&&(!m (p+1)&&!m (p+2))))
def jf(m:Nat->Bool)(o:List (Option R))(p:Nat):List (Option R):=bif rR m o p then(o.set p none).set (p+2) none else o
def dU(c:PC):PC:=ay c (walked (jf (marked c)) (c.rows.map some) (c.rows.length-2))
def rS(m o p):jf m o p=o\/jf m o p=(o.set p none).set (p+2) none:=by unfold jf;cases rR m o p<;>first|exact .inl rfl|exact .inr rfl
def s45(k:Ok c)(h:Q (dU c).mv J):call (run (d+4)) 45 [c.mv] J Q:=by
 refine qW (λ_:Unit=>[]) () (jf (marked c)) rfl rfl (by rfl) (λo p=>?_) (λo p j m=>?_) (λo p H t h=>?_) (λo i z K P H a s f=>?_) (Nat.le_refl 2) k h
 ·obtain e|e:=rS (marked c) o p<;>rw[e];exact rX length_set (rX length_set rfl)
 ·obtain e|e:=rS (marked c) o p<;>rw[e];exact rX (List.getElem?_set_ne (cm m)) (rX (List.getElem?_set_ne (λY=>gY (ln2 0x65146215012011110 rfl m Y))) rfl)
 ·obtain e|e:=rS (marked c) o p<;>refine rX e ?_;exact h;exact h.Ao.Ao
 have G:o[i]?=some o[i]:=dv (bX 0x721501276146511 rfl H a);have r:o[i+1]?=some o[i+1]:=dv (bX 0x721501276146115011 rfl H a);have b:jf (marked c) o i=bif rR (marked c) o i then(o.set i none).set (i+2) none else o:=rfl;unfold rR at b;rw[lb G,lb r,lb (dv (Nat.lt_of_lt_of_eq a (id (Eq.symm H))))]at b;refine aT rfl rfl (gV G) (ju JF (cB (λq1=>?_) λq1=>cs (f ()) (rX b (rX q1 rfl))));refine aT rfl rfl (gV r) (ju G6 (cB (λq2=>?_) λq2=>cs (f ()) (rX b (rX q1 (rX q2 rfl)))));refine aT rfl rfl (gV (dv (Nat.lt_of_lt_of_eq a (id (Eq.symm H))))) (ju JE (cB (λq3=>?_) λq3=>cs (f ()) (rX b (rX q1 (rX q2 (rX q3 rfl))))));refine cV rfl (ew (bt (a_ a) (aE _))) (cB (λg=>?_) λg=>cs (f ()) (rX b (rX q1 (rX q2 (rX q3 (rX g rfl))))));refine cV rfl (ew (Nat.lt_add_right 1 a)) (cB (λl=>?_) λl=>cs (f ()) (rX b (rX q1 (rX q2 (rX q3 (rX g (rX l rfl)))))));exact e8 none rfl (bX 0x721501276146511 rfl H a) (ln2 0x651312c261112c2510 rfl k.n H) rfl (e8 none rfl (by simp;exact bX 0x721501276146215011 rfl H a) (by simp;exact ln2 0x651312c261112c2510 rfl k.n H) (by exact rX b (rX q1 (rX q2 (rX q3 (rX g (rX l rfl)))))) (f ()))
def fp(a:List R)(f:Nat):Option Nat:=(a[f]?).bind λr=>r.o.jt
noncomputable def lh(r:List R)(o:Nat):Nat->Nat->Nat
 |0,_=>o
 |k+1,found=>match fp r found with
  |some t=>lh r o k t
  |none=>found
def Ok.aM(o:Ok c){t:Nat}(h:fp c.rows f=some t):t<c.rows.length:=by
 obtain⟨r,H,a⟩:=Option.bind_eq_some_iff.1 h;exact o.t r (gh H) t (rX (ip a) rfl)
def q0(o:Ok c)(h:p<c.rows.length):∀k f,f<c.rows.length->lh c.rows p k f<c.rows.length:=by
 intro m;induction m with
 |zero=>exact λZ Z=>h
 |succ k i=>
  intro f H;show(match fp c.rows f with|some t=>lh c.rows p k t|none=>f)<_;cases e:fp c.rows f with
  |none=>exact H
  |some t=>exact i t (o.aM e)
def toEnd(c:PC)(t:Nat):Nat:=lh c.rows t c.rows.length t
def bF(c:PC)(r:R):R:=match r.o.bo with
 |none=>r
 |some t=>bif r.o.isJ&&(c.rows[toEnd c t]?.any λq=>q.o.g8)then⟨.leave,r.g⟩else r.cC (toEnd c t)
def bK(c:PC):PC:=ay c (c.rows.map λr=>some (bF c r))
def dm{o:O}(h:o.bo=some j):(o.cC t).bo=some t:=by cases o<;>first|rfl|exact nn h
def Xq(h:b=true->Q)(H:b=false->P):pG (!b) P Q:=by cases b;exact H rfl;exact h rfl
def s40(j:Ok c)(s:p<c.rows.length)(h:Q (.int (toEnd c p)) J):call (run (d+1)) 40 [c.mv,.int p] J Q:=by
 have w:=j.n;have m:(cL:Int)=1000000:=rfl;have e:((c.rows.map R.mv).length:Int).toNat=c.rows.length:=by exact rX cX rfl
 refine fr (af:=[some c.mv,some (.int p),none,none]) rfl rfl ⟨dB c,ai,ai⟩ ?_;refine lX e (rX m (Int.neg_ofNat_le_natCast 1000000 (List.map R.mv c.rows).length)) (by refine rX cX ?_;refine rX m ?_;lia) ?_
 have b:∀k i f x,i+k=c.rows.length->f<c.rows.length->lh c.rows p k f=toEnd c p->forR (.plain (.vals (fE c.rows.length))) (.one 3) (Cr (run d)) k i [some c.mv,some (.int p),some (.int (f:Nat)),x] [] (kS (I7 (run d)) (eN (rN J Q))):=by
  intro k;induction k with
  |zero=>intro i f x _ _ e;exact d0 (kd h (congrArg (λn:Nat=>Q (.int n) J) (e.symm))) ai
  |succ k v=>
   intro i f x r u e;have g:=dv u;refine fQ (a:=.int i) (by rw[fE];refine rX hW ?_;refine rX (List.getElem?_range (by exact bX 0x6117050136511 rfl r)) ?_;rfl) ?_;refine cV rfl (gR g) (Xq (λq=>?_) λq=>?_)
   all_goals rw[kF,<-nZ]at q
   ·obtain⟨t,l⟩:=Option.isSome_iff_exists.1 q;have H:fp c.rows f=some t:=by rw[fp];refine rX g ?_;exact l
    refine cV rfl (gR g) ?_;have E:c.rows[f].o.a= .int t:=by exact rX (ip l) rfl
    dsimp only[lh]at e;rw[H]at e;show forR _ _ _ k (i+1) [some c.mv,some (.int p),some c.rows[f].o.a,some (.int i)] [] _;exact rX E (v (i+1) t _ (bX 0x711605013761150012 rfl r) (j.aM H) e)
   ·have H:fp c.rows f=none:=by rw[fp];refine rX g ?_;exact Option.not_isSome_iff_eq_none.1 (by rw[Option.bind_some];refine rX q ?_;exact bP)
    dsimp only[lh]at e;rw[H]at e;exact d0 (kd h (congrArg (λn:Nat=>Q (.int n) J) e.symm)) ai
 show kp (.plain (.vals (fE c.rows.length))) (.one 3) (Cr (run d)) (fE c.rows.length).length 0 [some c.mv,some (.int p),some (.int p),none] [] _;unfold kp;exact rX (show(fE c.rows.length).length=c.rows.length from(cX ..).trans length_range) (b _ 0 p none (aD _) s rfl)
def s41(f:Ok c)(h:Q (bK c).mv J):call (run (d+4)) 41 [c.mv] J Q:=by
 refine fr (af:=[some c.mv,none,none,none]) rfl rfl ⟨dB c,ai⟩ (aY (by decide) ?_);refine d7 (λZ x=>[some c.mv,some (.lst 0),x.1,x.2]) (λp Z=>[.list ((p.map λr=>some (bF c r)).map gj)]) (none,none) (λZ Z=>.vals _) (λp r t x P e g=>?_) rfl rfl λx=>?_
 ·obtain⟨w,b⟩:∃w,bF c r=w:=⟨_,rfl⟩;have u:r∈c.rows:=by refine rX e ?_;simp
  have v:(p.map λr=>some (bF c r)).length<=300:=by have:=congrArg List.length e;simp at*;exact bX 0x11705061412c261112c2510 rfl f.n this
  replace g:=λy=>Ft (Q:=λZ J=>P [some c.mv,some (.lst 0),some r.mv,y] J) (some w) rfl v (by exact rX fD (rX b.symm rfl)) (g (_,y));refine vm r.o _ ?_;unfold bF at b;obtain⟨i,k⟩|⟨j,i,k,s⟩:=r.o.js<;>refine rX i ?_<;>rw[k]at b
  ·subst b;exact dz rfl (g _)
  have l:=f.t r u j k;have H:toEnd c j<c.rows.length:=q0 f l _ j l;dsimp only at b;rw[(dv H)]at b;show call (run (d+3)) 40 [c.mv,r.o.a] _ _;refine rX s ?_;refine s40 f l (cB (λq=>?_) λq=>?_)
  all_goals rw[kF]at q;rw[q]at b
  ·refine cV rfl (gR (dv H)) (cB (λq=>?_) λq=>?_)
   all_goals rw[vp]at q;rw[Option.any_some,q]at b;subst b
   ·exact dz rfl (s1 _ _ _ _ _ (g _))
   ·exact dz rfl (s2 r _ i (g _))
  ·subst b;exact dz rfl (s2 r _ i (g _))
 refine cz rfl rfl (Pg f (by simp) ?_ (d0 h (dB _)));intro r z t H;obtain⟨q,m,e⟩:=i4 z;obtain rfl:=aj e;unfold bF at H;cases E:q.o.bo with
 |none=>have H:=E▸H;rw[E]at H;exact nn H
 |some j=>
  rw[E]at H;dsimp only at H;cases A:q.o.isJ&&(c.rows[toEnd c j]?.any λq=>q.o.g8)<;>rw[A]at H<;>dsimp only[cond]at H
  ·rw[show(R.cC q (toEnd c j)).o.bo=some (toEnd c j) from dm E]at H;obtain rfl:=aj H;exact a_ (q0 f (f.t q m j E) _ j (f.t q m j E))
  ·exact nn H
noncomputable def Ct.on(k:Ct)(p:Nat):Bool:=decide (k.first<=p)&&decide (p<k.last)
def eJ(c:PC)(p:Nat):List Nat:=match c.rows[p]? with
 |none=>[]
 |some r=>r.o.bo.toList++(bif r.o.bZ then[]else[p+1])++(c.ax.filter λk=>k.on p).map λk=>k.target
inductive Reach(c:PC):Nat->Prop
 |start {s:Nat}:s∈c.starts->Reach c s
 |step {p q:Nat}:Reach c p->q∈eJ c p->Reach c q
def xH(b:Ok c)(H:q∈eJ c p):q<c.rows.length:=by
 unfold eJ at H;cases a:c.rows[p]? with
 |none=>rw[a]at H;exact ak H d6
 |some r=>
  rw[a]at H;obtain h|h:=iZ H
  ·obtain h|h:=iZ h
   ·exact b.t r (gh a) q (Option.mem_toList.1 h)
   ·cases d:r.o.bZ<;>have h:=d▸h
    ·obtain rfl:=d5 h;have:=(cu a);by_cases f:p+1=c.rows.length
     ·exact tf (ag (b.e p r a f) d)
     ·exact eX this f
    ·exact ak h d6
  ·obtain⟨k,g,rfl⟩:=i4 h;exact(b.k k (mem_filter.1 g).1).2.2
def Reach.lt(o:Ok c)(h:Reach c p):p<c.rows.length:=by
 cases h with
 |start h=>exact o.s _ h
 |step _ h=>exact xH o h
open Classical in
def en(c:PC)(p:Nat):Bool:=decide (Reach c p)
open Classical in
def g9(c:PC)(p:Nat):en c p=true↔Reach c p:=by unfold en;exact decide_eq_true_iff
noncomputable def left(n:Nat)(f:Nat->Bool):Nat:=(List.range n).countP λp=>!f p
def vw(n f):left (n+1) f=left n f+if f n then 0 else 1:=by
 unfold left;refine rX range_succ (rX countP_append ?_);cases h:f n<;>simp[h]
def vy(n f):left n f<=n:=bt countP_le_length (by simp)
def xI(a:f p=false):(p<n->left n (λq=>f q||p==q)+1=left n f)/\(n<=p->left n (λq=>f q||p==q)=left n f):=by
 induction n with
 |zero=>exact⟨λh=>ak h (Nat.not_lt_zero _),λZ=>rfl⟩
 |succ n i=>
  rw[vw,vw];constructor
  ·intro h;by_cases H:p=n
   ·subst H;refine rX (i.2 di) (rX a ?_);simp
   ·refine rX (i.1 (eX (Nat.le_of_lt_succ h) H)).symm ?_;have:(p==n)=false:=by simpa using H
    simp only[this,Bool.or_false];exact Nat.add_right_comm (left n λq=>f q||p==q) (if f n=true then 0 else 1) 1
  ·intro h;refine rX (i.2 (Nat.le_of_succ_le h)) ?_;have:(p==n)=false:=by simp;exact Nat.ne_of_lt' h
   simp only[this,Bool.or_false]
structure RI(c:PC)(f:Nat->Bool)(l:List Nat):Prop where
 a:∀p,p∈l->Reach c p
 b:∀p,f p=true->Reach c p
 s:∀s,s∈c.starts->f s=true\/s∈l
 n:∀p,f p=true->∀q,q∈eJ c p->f q=true\/q∈l
def RI.done(h:RI c f []):f=en c:=by
 funext p
 have:Reach c p->f p=true:=λH=>by
  induction H with
  |start H=>exact(h.s _ H).resolve_right d6
  |step _ a i=>exact(h.n _ i _ a).resolve_right d6
 rw[Bool.eq_iff_iff,g9];exact⟨h.b p,this⟩
def RI.skip(h:RI c f (l++[p]))(e:f p=true):RI c f l:=by
 have k:∀q,f q=true\/q∈l++[p]->f q=true\/q∈l:=λq h=>h.elim .inl λh=>(iZ h).elim .inr λh=>by
  exact rX (d5 h) (.inl e)
 exact⟨λq H=>h.a q (mem_append_left _ H),h.b,λs d=>k s (h.s s d),λq H s d=>k s (h.n q H s d)⟩
def RI.take(h:RI c f (l++[p])):RI c (λq=>f q||p==q) (l++eJ c p):=by
 have k:∀q,f q=true\/q∈l++[p]->(f q||p==q)=true\/q∈l++eJ c p:=λq h=>h.elim (λh=>.inl (rX h rfl)) λh=>(iZ h).elim (λh=>.inr (mem_append_left _ h)) λh=>by
  exact rX (d5 h) (.inl (by simp))
 refine⟨λq d=>(iZ d).elim (λH=>h.a q (mem_append_left _ H)) λH=>(h.a p (by simp)).step H,λq d=>?_,λs e=>k s (h.s s e),λq d s e=>?_⟩
 ·obtain H|H:=pF d
  ·exact h.b q H
  ·exact beq_iff_eq.1 H▸(h.a p (by simp))
 ·obtain H|H:=pF d
  ·exact k s (h.n q H s e)
  ·exact .inr (mem_append_right _ (beq_iff_eq.1 H▸e))
section
variable{Q:MV->MH->Prop}
def C2(e:J[a]?=some (.list l))(E:l=l'++[x])(H:l'.length<=cL)(h:Q x (J.set a (.list l'))):eG .pop (.lst a) [] J Q:=by
 subst E;with_unfolding_all exact⟨_,e,x,List.getLast?_concat,rX dropLast_concat (⟨H,h⟩)⟩
def Fu(L:X->Loc)(H:X->MH)(i:Nat->X->Prop)(k:Nat)(x0:X)(f:∀k x (P:Loc->MH->Prop),i k x->(∀c b,c<k->i c b->P (L b) (H b))->t (L x) (H x) (uZ (λaf J K=>body af J (kFor K P)) (λaf J K=>K .next af J) (L x) K))
  (a:af=L x0)(d:J=H x0)(g:i k x0):sW t body af J K:=by
 have e:∀n k x,k<n->i k x->Ck t body n (L x) (H x) K:=by
  intro n;induction n with
  |zero=>intro k x h;exact ak h (Nat.not_lt_zero _)
  |succ n o=>intro k x l m;exact f k x _ m λc b h j=>o c b (bt h (Nat.le_of_lt_succ l)) j
 subst a d;unfold sW TP;exact⟨k+1,e (k+1) k x0 (Nat.lt_add_one k) g⟩
def s4{k:Ct}(h:Q (.bool (k.on p)) J):call (run (d+1)) 4 [k.mv,.int p] J Q:=by
 refine fr (af:=[some k.mv,some (.int p)]) rfl rfl ⟨⟨ai,ai,ai,ai,ai,ai⟩,ai,ai⟩ ?_;have e:decide ((k.first:Int)<=(p:Int))=decide (k.first<=p):=by rw[Bool.eq_iff_iff];simp
 have E:decide ((p:Int)<(k.last:Int))=decide (p<k.last):=by rw[Bool.eq_iff_iff];simp
 unfold Ct.on at h;refine cB (λq=>?_) λq=>?_<;>rw[e]at q<;>rw[q]at h
 ·exact d0 (rX E h) ai
 ·exact d0 h ai
def Fv:Ops [.str cv,.str f_,.str qa,.str il,.str mL] O.bZ:=⟨⟨ai,ai,ai,ai,ai,ai⟩,_,rfl,λo=>lV (λs=>c7 s [cv,f_,qa,il,mL]) _ (by kernel_rfl) o⟩
def RL(c:PC)(x:Option MV×Option MV×Option MV):Loc:=[some c.mv,some (.lst 1),some (.lst 2),x.1,x.2.1,x.2.2]
def RH(c:PC)(f:Nat->Bool)(l:List Nat):MH:=[.list [.bool false],.list (g0 c.rows.length f),.list (l.map er)]
def yS(n:Nat)(e:v= .int n)(H:l.length<=40000)(E:l++[n]=l')(h:Q .none (RH c f l')):eG .append (.lst 2) [v] (RH c f l) Q:=by
 subst e E;exact iH rfl (iC (ml H) (by decide)) (by exact rX fD rfl) h
def st(c:PC)(p:Nat)(r:R)(z:Option MV):Loc:=RL c (some (.int p),some r.mv,z)
def Pn(i:w.length<=36000)(j:c.ax.length<=100)(h:∀a,K .next (st c p r a) (RH c f (w++(c.ax.filter λk=>k.on p).map λk=>k.target))):I8 (run (d+1)) (st c p r z) (RH c f w) K:=by
 refine d7 (λZ a=>st c p r a) (λq Z=>RH c f (w++(q.filter λk=>k.on p).map λk=>k.target)) z (λZ Z=>.vals _) (λq k t a P e H=>?_) rfl (by simp) h;refine s4 (cB (λq1=>?_) λq1=>?_)
 ·refine dz rfl (yS k.target rfl ?_ ?_ (H (some k.mv)))
  ·have b:=congrArg List.length e;have g:=length_filter_le (λk:Ct=>k.on p) q;simp at b g⊢;exact bt (Nat.add_le_add i (show _<=100 from gf 0x118070614751106426110642510 rfl j g b)) (by decide)
  ·simp[q1]
 ·exact cH (H (some k.mv)) (by simp[q1])
def C3(H:w.length<=35000)(a:c.ax.length<=100)(h:∀b,K .next (st c p r b) (RH c f (w++((bif r.o.bZ then[]else[p+1])++(c.ax.filter λk=>k.on p).map λk=>k.target)))):I9 (run (d+1)) (st c p r z) (RH c f w) K:=by
 refine ki Fv (Xq (λq=>?_) λq=>?_)<;>have h:=q▸h
 ·exact Pn (av H) a h
 ·exact dz rfl (yS (p+1) rfl (av H) rfl (Pn (by simp;exact av H) a (by simpa using h)))
def g_(H:w.length<=34000)(a:c.ax.length<=100)(h:∀g,K .next (st c p r g) (RH c f (w++(r.o.bo.toList++(bif r.o.bZ then[]else[p+1])++(c.ax.filter λk=>k.on p).map λk=>k.target)))):I_ (run (d+1)) (st c p r z) (RH c f w) K:=by
 refine vm r.o _ ?_;obtain⟨b,e⟩|⟨j,b,e,i⟩:=r.o.js<;>rw[e]at h<;>refine rX b ?_
 ·exact C3 (av H) a h
 ·exact dz rfl (yS j i (av H) rfl (C3 (by simp;exact av H) a (by simpa using h)))
def s42(g:Ok c)(h:Q (.aQ (g0 c.rows.length (en c))) J):call (run (d+2)) 42 [c.mv] J Q:=by
 have r:=g.n;refine fr rfl rfl ⟨dB c,ai⟩ ?_;refine aY (by decide) (f' rfl (qe c.rows.length (by simp) (aY (rX length_replicate (dR (et 5280203062912272 rfl r))) ?_)));refine aY (ml (bt g.sn (by decide))) ?_;refine Fu (λx:(Nat->Bool)×List Nat×Option MV×Option MV×Option MV=>RL c x.2.2) (λx=>RH c x.1 x.2.1) (λk x=>k<=33010/\x.2.1.length+110*left c.rows.length x.1<=k/\RI c x.1 x.2.1) 33010 (λZ=>false,c.starts,none,none,none) (λk x P e t=>?_) rfl (by rw[xA];rfl) ⟨di,?_,λp h=>.start h,λZ h=>ft h,λZ h=>.inr h,λZ h=>ft h⟩
 ·obtain⟨f,l,x⟩:=x;obtain⟨m,b,e⟩:=e;dsimp only at b e;refine ed rfl ?_;obtain rfl|⟨l',p,rfl⟩:=eq_nil_or_concat l
  ·exact rX e.done (⟨_,.lst aZ rfl (g6 (eU (f:=λp=>MV.bool _) (λZ=>ai) _)),h⟩)
  rw[concat_eq_append]at b e⊢;have b:=length_singleton▸c9▸b;have H:=(e.a p (by simp)).lt g;have i:=Nat.sub_lt (bX 0x57116001150111 rfl b:0<k) Nat.one_pos;have j:=bt (Nat.sub_le k 1) m;refine iT (bA (by simp)) (CP rfl (C2 rfl (fD) (ml (bt (by exact gf 0x78115001167116510 rfl m b:l'.length<=33010) (by decide))) (aT rfl rfl (ew H) (cB (λq=>?_) λq=>?_))))
  ·exact t (k-1) (f,l',some (.int p),_,_) i ⟨j,Nat.le_sub_of_add_le (bX 0x761150011711650010 rfl b),e.skip q⟩
  ·refine ja rfl rfl (by rw[iR];exact H) (by rw[iR];exact dR (et 5280203062912272 rfl r)) (oZ ..) (cV rfl (gR (dv H)) ?_);refine g_ (bt (bX 0x6711500116510 rfl b) (bt m (by decide))) g.kn λz=>?_;have u:eJ c p=c.rows[p].o.bo.toList++(bif c.rows[p].o.bZ then[]else[p+1])++(c.ax.filter λk=>k.on p).map λk=>k.target:=by rw[eJ,(dv H)]
   refine rX u.symm ?_
   have s:(eJ c p).length<=102:=by
    have s:=length_filter_le (λk:Ct=>k.on p) c.ax;refine rX u ?_;simp only[c9,cX];have v:c.rows[p].o.bo.toList.length<=1:=by cases c.rows[p].o.bo<;>simp
    have w:(bif c.rows[p].o.bZ then[]else[p+1]).length<=1:=by cases c.rows[p].o.bZ<;>simp
    exact gf 0x11611115118711064281106627650010 rfl g.kn s v w
   exact t (k-1) (_,l'++eJ c p,some (.int p),some c.rows[p].mv,z) i ⟨j,(by show(l'++eJ c p).length+110*left c.rows.length (λq=>f q||p==q)<=k-1;refine rX c9 (Nat.le_sub_of_add_le ?_);exact lS 0x906e27013066261189115001181176500010 rfl b s (show 110*left c.rows.length (λq=>f q||p==q)+110=_ from congrArg (110*·) ((xI q).1 H))),e.take⟩
 ·exact Nat.add_le_add g.sn (Nat.mul_le_mul_left 110 (bt (vy c.rows.length λZ=>false) r))
end
def cR(c:PC):PC:=ay c (c.rows.zipIdx.map λx=>bif en c x.2 then some x.1 else none)
def nA(r:R):MV:=.tup [.str r.o.name,r.o.a,r.o.b,r.o.c]
def aav(r:R):pure (nA r):=have h:f9 [_,_,_,_,_]:=kh r;⟨h.1,h.2.1,h.2.2.1,h.2.2.2.1,ai⟩
def It.zip{l:List β}(g h:β->MV):It (.zip (.vals (l.map g)) (.vals (l.map h))) (l.map λx=>.tup [g x,h x]) J:=by
 with_unfolding_all refine⟨by show(l.map g).length=_;simp,λi x Q e k=>?_,λZ h=>h⟩
 rw[hW]at e;obtain⟨y,H,rfl⟩:=Option.map_eq_some_iff.1 e;exact fQ (rX hW (rX H rfl)) (fQ (rX hW (rX H rfl)) k)
def vz{β:Type}{f:β->MV}{l:List β}(L:X->Loc)(H:X->MH)(i:Nat->X->Prop)(x0:X)(d:∀x,It w (l.map f) (H x))
  (m:∀k r x (P:Loc->MH->Prop),r∈l->i (k+1) x->(∀b,i k b->P (L b) (H b))->jP (L x) (f r) tg (H x) λaf J=>body af J (kFor K P))
  (a:af=L x0)(g:J=H x0)(n:i l.length x0)(o:∀x,i 0 x->K .next (L x) (H x)):kp w tg body w.len 0 af J K:=by
 have j:∀t p x,l=p++t->i t.length x->forR w tg body t.length p.length (L x) (H x) K:=by
  intro t;induction t with
  |nil=>intro p x e h;exact(d _).2.2 _ (o x h)
  |cons r t u=>
   intro p x e h;refine(d _).2.1 p.length (f r) _ (by refine rX e ?_;refine rX hW ?_;refine rX (List.getElem?_append_right di) ?_;rw[Nat.sub_self];rfl) (m _ r x _ (by refine rX e ?_;simp) h λb s=>?_);have:=u (p++[r]) b (by refine rX e ?_;rw[append_assoc];rfl) s;rw[c9]at this;exact this
 subst a g;unfold kp;exact rX ((d x0).1) (rX cX (j l [] x0 rfl n))
section
variable{c:PC}
def Xr{Q:Wk->MH->Prop}(e:g.length=h.length)(k:Q (.zip (.vals g) (.vals h)) J):uX .zip [.aQ g,.aQ h] J Q:=fR e k
def G7(l:List α)(f:Nat->Bool):g0 l.length f=l.zipIdx.map λx=>.bool (f x.2):=by
 unfold g0;apply ext_getElem (by simp);intro i h H;simp
def iS(l:List α)(f:α->β):l.map f=l.zipIdx.map λx=>f x.1:=by
 apply ext_getElem (by simp);intro i h H;simp
def s43(a:Ok c)(h:Q (cR c).mv J):call (run (d+4)) 43 [c.mv] J Q:=by
 refine fr (af:=[some c.mv,none,none]) rfl rfl ⟨dB c,ai⟩ (s42 a ?_);refine Xr (by simp[g0]) ?_;rw[G7];refine rX (iS c.rows R.mv) ?_;refine comp_map (λx=>gj (bif en c x.2 then some x.1 else none)) (.zip (λx:R×Nat=>x.1.mv) λx=>.bool (en c x.2)) (λr b S H=>fQ rfl (cB (λq=>?_) λq=>?_)) (aY (by simp;exact dR (av a.n)) ?_)
 ·rw[q]at H;exact H
 ·rw[q]at H;exact H
 refine cz (CO:=[_,.aQ ((c.rows.zipIdx.map λx=>bif en c x.2 then some x.1 else none).map gj)]) (rX map_map rfl) rfl (Pg (o:=c.rows.zipIdx.map λx=>bif en c x.2 then some x.1 else none) a (by simp) (λr b t f=>?_) (d0 h (dB _)));obtain⟨⟨q,i⟩,g,e⟩:=i4 b;cases E:en c i<;>rw[E]at e<;>cases e;exact a.bo q (mem_map_of_mem (fst_mem_of_mem_zipIdx g)) t f
def o7(f:Nat)(H:f=51\/f=71)(a:c.rows.length<=300)(h:Q (.aQ (c.rows.map nA)) J):call (run (d+1)) f [c.mv] J Q:=by
 have k:b51 (run d) [some c.mv,none] [] (eN (rN J Q)):=comp_map nA (.vals _) (λr e S b=>b) (aY (ml (bt a (by decide))) ⟨_,.lst aZ rfl (g6 (eU aav _)),h⟩);obtain rfl|rfl:=H
 ·exact fr rfl rfl ⟨dB c,ai⟩ k
 ·exact fr rfl rfl ⟨dB c,ai⟩ k
end
def Vl.dat(v:Vl):PyData:=match v with
 | .none=>.none
 | .tt=>.bool true
 | .ff=>.bool false
 | .i0=>.int 0
 | .i5=>.int 5
 | .i9=>.int 9
 | .s=>.str Cq
 | .main=>.str ur
def O.ad(o:O):PyData:=match o with
 | .push v=>v.dat
 | .aL _| .a8 _=>.int 0
 | .iQ g| .gN g=>.str (la g)
 | .send b=>.str (vk b)
 | .aM t=>.int t
 | .br _ t=>.int t
 |_=>.none
noncomputable def O.bd(o:O):PyData:=match o with
 | .aL k| .a8 k=>.int k
 | .send _=>.int 1
 |_=>.none
def O.cd(o:O):PyData:=match o with
 | .send _=>.tuple [.str cE,.none]
 |_=>.none
def O.dat(o:O):PyData:=.tuple [.str o.name,o.ad,o.bd,o.cd]
def Po(J:MH)(n:Nat)(v:Vl):bV J (n+1) v.mv=some v.dat:=by cases v<;>kernel_rfl
def Xs(J:MH)(o:O):bV J 6 (.str o.name)=some (.str o.name):=by cases o with|br b t=>cases b<;>kernel_rfl|_=>kernel_rfl
def Xu(J:MH)(o:O):bV J 6 o.a=some o.ad:=by
 cases o with
 |push v=>exact Po J 5 v
 |iQ g=>cases g<;>kernel_rfl
 |gN g=>cases g<;>kernel_rfl
 |send g=>cases g<;>kernel_rfl
 |_=>kernel_rfl
def Xv(J:MH)(o:O):bV J 6 o.b=some o.bd:=by cases o<;>kernel_rfl
def Xw(J:MH)(o:O):bV J 6 o.c=some o.cd:=by cases o<;>kernel_rfl
def d_(h:f x=some y)(k:dM f l=some m):dM f (x::l)=some (y::m):=by
 show(match f x with|some b=>_|none=>none)=_;exact rX h (rX k rfl)
def J7(J:MH)(r:R):bV J 7 (nA r)=some r.o.dat:=
 congrArg (λx:Option (List PyData)=>x.map PyData.tuple) (d_ (Xs J r.o)<|d_ (Xu J r.o)<|d_ (Xv J r.o)<|d_ (Xw J r.o) rfl)
@[irreducible] def e9(c C:PC):Bool:=PyData.eqvAll (c.rows.map λr=>r.o.dat) (C.rows.map λr=>r.o.dat)
def rT{h:α->γ}(e:∀x,f (g x)=some (h x)):∀l:List α,dM f (l.map g)=some (l.map h):=by
 intro m;induction m with
 |nil=>exact rfl
 |cons x l i=>exact d_ (e x) (i)
def Fw(J:MH)(l:List R):bV J 8 (.aQ (l.map nA))=some (.list (l.map λr=>r.o.dat)):=by
 show(dM (bV J 7) _).map PyData.list=_;rw[rT (J7 J)];rfl
def e_:PyData.eqvAll (x::l) (y::m)=(PyData.eqv x y&&PyData.eqvAll l m):=by rw[PyData.eqvAll]
theorem qi:∀{l m:List PyData},PyData.eqvAll l m=true->l.length=m.length/\∀(i:Nat) (x y:PyData),l[i]?=some x->m[i]?=some y->PyData.eqv x y=true
 |[],[]=>λZ=>⟨rfl,λZ Z Z h=>nn h⟩
 |[],_::_=>λh=>ft h
 |_::_,[]=>λh=>ft h
 |a::l,b::m=>λh=>by
  have h:=aA h;refine⟨congrArg (·+1) (qi h.2).1,λi x y H c=>?_⟩;cases i with
  |zero=>obtain rfl:=aj H;obtain rfl:=aj c;exact h.1
  |succ i=>exact(qi h.2).2 i x y H c
def kI(h:∀x∈l,PyData.eqv x x=true):PyData.eqvAll l l=true:=by
 induction l with
 |nil=>rfl
 |cons x l i=>exact rX e_ (rX (h x (by simp)) (rX (i λy H=>h y (by simp[H])) rfl))
def G8(o:O):PyData.eqv o.dat o.dat=true:=by
 refine kI λx a=>?_;have h:∀s:Str,PyData.eqv (.str s) (.str s)=true:=λs=>by rw[PyData.eqv];exact beq_self_eq_true s
 have H:∀s:Int,PyData.eqv (.int s) (.int s)=true:=λs=>by rw[PyData.eqv];exact beq_self_eq_true s
 simp only[mem_cons,d6,or_false]at a;obtain rfl|rfl|rfl|rfl:=a
 ·exact h _
 ·cases o with
  |push v=>cases v<;>first|exact h _|exact H _|rfl
  |_=>first|exact h _|exact H _|rfl
 ·cases o<;>first|exact H _|rfl
 ·cases o<;>first|kernel_rfl|rfl
def jg(c:PC):e9 c c=true:=by unfold e9;exact kI λx h=>by obtain⟨r,_,rfl⟩:=i4 h;exact G8 r.o
def O.jd(o:O):(o.hJ=false/\o.bo=none)\/∃t:Nat,o.hJ=true/\o.bo=some t/\o.ad= .int t:=by
 cases o<;>first|exact .inl ⟨rfl,rfl⟩|exact .inr ⟨_,rfl,rfl,rfl⟩
def J8{o o':O}(h:PyData.eqv o.dat o'.dat=true):o.name=o'.name/\o.bo=o'.bo:=by
 have c:o.name=o'.name:=by have:=(aA h).1;exact beq_iff_eq.1 this
 have d:=(aA (aA h).2).1;have f:∀o:O,c7 o.name [cv,cy,bB,k8]=o.hJ:=λo=>by cases o with|br b t=>cases b<;>kernel_rfl|_=>kernel_rfl
 have H:o.hJ=o'.hJ:=by rw[<-f,<-f,c]
 refine⟨c,?_⟩;obtain⟨a,b⟩|⟨t,a,b,e⟩:=o.jd<;>obtain⟨A,B⟩|⟨t',A,B,E⟩:=o'.jd<;>rw[a,A]at H<;>rw[b,B]
 ·exact ft H
 ·exact tf H
 ·rw[e,E]at d;exact rX (Int.ofNat_inj.1 (beq_iff_eq.1 d)) rfl
def tG(h:e9 c c'=true):c.rows.length=c'.rows.length/\∀(i:Nat) (r a:R),c.rows[i]?=some r->c'.rows[i]?=some a->r.o.name=a.o.name/\r.o.bo=a.o.bo:=by
 unfold e9 at h;have h:=qi h;have h:=cX▸cX▸h;exact⟨h.1,λi r a b H=>J8 (h.2 i _ _ (rX hW (rX b rfl)) (rX hW (rX H rfl)))⟩
def C4(h:Q (e9 c c') J):yv g (.aQ (c.rows.map nA)) (.aQ (c'.rows.map nA)) J Q:=by
 with_unfolding_all exact .inr ⟨_,Fw J _,_,Fw J _,show Q (PyData.eqv (.list _) (.list _)) J by rw[PyData.eqv];exact h⟩
inductive Ps[Inhabited Unit]|T|K|U|S|D|P|C|W
noncomputable def Ps.ctorIdx[Inhabited Unit](x:Ps):Nat:=x.casesOn 0 1 2 3 4 5 6 7
def Ps.run(p:Ps):PC->PC:=match p with|T=>bK|K=>eh|U=>cI|S=>cQ|D=>cR|P=>dE|C=>dU|W=>gb
noncomputable def Ps.fn(p:Ps):Nat:=match p with|T=>41|K=>47|U=>48|S=>49|D=>43|P=>44|C=>45|W=>50
def Ps.name(p:Ps):Str:=match p with|T=>nL|K=>kq|U=>jX|S=>mc|D=>nM|P=>xm|C=>xo|W=>z6
noncomputable def jG:List Ps:=[.T,.K,.U,.S,.D,.P,.C,.W]
def Ps.mv(p:Ps):MV:=.tup [.str p.name,.fn p.fn]
def runs(l:List Ps)(c:PC):PC:=l.foldl (λc p=>p.run c) c
@[irreducible] def round(c:PC):PC:=runs jG c
def rU(c:PC):runs jG c=round c:=by unfold round;rfl
noncomputable def dA:Nat->PC->PC
 |0,c=>c
 |k+1,c=>match e9 (round c) c with|true=>round c|false=>dA k (round c)
abbrev Kept(G:PC->Prop):Prop:=(∀c,G c->Ok c)/\∀(p:Ps) c,G c->G (p.run c)
theorem Kept.runs(h:Kept G):∀(l:List Ps) {c:PC},G c->G (runs l c)
 |[]=>λg=>g
 |p::l=>λg=>h.runs l (h.2 p _ g)
def Kept.lY(h:Kept G)(g:G c):G (round c):=rU c▸h.runs jG g
theorem Kept.tidy(h:Kept G):∀k {c:PC},G c->G (dA k c)
 |0=>λg=>g
 |k+1=>λg=>by
  show G (match e9 (round _) _ with|true=>round _|false=>dA k (round _));cases e9 (round _) _
  ·exact h.tidy k (h.lY g)
  ·exact h.lY g
def sP(p:Ps)(o:Ok c)(h:Q (p.run c).mv J):call (run (d+4)) p.fn [c.mv] J Q:=by
 cases p
 ·exact s41 o h
 ·exact s47 o h
 ·exact s48 o h
 ·exact s49 o h
 ·exact s43 o h
 ·exact s44 o h
 ·exact s45 o h
 ·exact s50 o h
def qj(h:e9 (round c) c=true):dA (k+1) c=round c:=by show(match e9 (round c) c with|true=>round c|false=>dA k (round c))=_;exact rX h rfl
def Av(h:e9 (round c) c=false):dA (k+1) c=dA k (round c):=by show(match e9 (round c) c with|true=>round c|false=>dA k (round c))=_;exact rX h rfl
def vA(l:List Ps)(p:Ps):runs (l++[p]) c=p.run (runs l c):=foldl_append
def s52(H:Kept G)(g:G c)(h:Q (dA 24 c).mv J):call (run (d+5)) 52 [c.mv] J Q:=by
 have o:(cL:Int)=1000000:=rfl;refine fr (af:=[some c.mv,none,none,none,none]) rfl rfl ⟨dB c,ai⟩ ?_;refine lX rfl (by refine rX o ?_;decide) (by refine rX o ?_;decide) ?_;refine vz (λx:PC×Option MV×Option MV×Option MV×Option MV=>[some x.1.mv,x.2.1,x.2.2.1,x.2.2.2.1,x.2.2.2.2]) (λZ=>[]) (λk x=>G x.1/\dA k x.1=dA 24 c) (c,none,none,none,none) (λZ=>.vals _) (λk i x P u a s=>?_) rfl rfl ⟨g,rfl⟩ λx a=>d0 (kd h (congrArg (λc:PC=>Q c.mv J) a.2.symm)) (dB _);obtain⟨C,x⟩:=x;have m:=a.1;have b:=a.2;refine o7 51 (.inl rfl) (H.1 _ m).n ?_;refine d7 (f:=Ps.mv) (l:=jG) (λp x=>[some (runs p C).mv,some (.int i),some (.aQ (C.rows.map nA)),x.1,x.2]) (λZ Z=>[]) (x.2.2.1,x.2.2.2) (λZ Z=>.vals _) (λp q t y v e j=>?_) rfl rfl λy=>?_
 ·refine fQ rfl (sP q (H.1 _ (H.runs p m)) ?_);have:=j (some (.str q.name),some (.fn q.fn));rw[vA]at this;exact this
 ·have r:=H.lY m;rw[rU];refine o7 51 (.inl rfl) (H.1 _ r).n (C4 (cB (λq=>?_) λq=>?_))
  ·rw[qj q]at b;exact d0 (kd h (congrArg (λc:PC=>Q c.mv J) b.symm)) (dB _)
  ·rw[Av q]at b;exact s (round C,_,_,_,_) ⟨r,b⟩
def Pp(H:cx[k]?=some (.list []))(p:pure a)(P:pure b)(c:pure e)(d:pure f)(pg:pure g)(l:pure h)(m:pure i)(n:pure j):Fz cx 0 (.obj 2 [a,b,e,f,g,h,.lst k,i,j]) (.obj 2 [a,b,e,f,g,h,.aQ [],i,j]):=
 .obj (.cons (.pure p)<| .cons (.pure P)<| .cons (.pure c)<| .cons (.pure d)<| .cons (.pure pg)<| .cons (.pure l)<| .cons (.lst aZ H .nil)<| .cons (.pure m)<| .cons (.pure n) .nil)
def Aw(c:PC){cx:MH}{k:Nat}(H:cx[k]?=some (.list [])):Fz cx 0 (.obj 2 [.str jD,.str pH,.none,.aQ ((List.range c.ns).map qf),.aQ (c.rows.map R.mv),.aQ (c.ax.map Ct.mv),.lst k,.aQ (c.starts.map er),.none]) c.mv:=
 have p:f9 [_,_,_,_,_,_,_,_,_]:=dB c;have q:=p.2.2.2;have r:=q.2.2.2.2;Pp H p.1 p.2.1 p.2.2.1 q.1 q.2.1 q.2.2.1 r.1 r.2.1
def s53(H:Kept G)(g:G c)(h:Q (dA 24 c).mv J):call (run (d+6)) 53 [c.mv] J Q:=by
 refine fr (af:=[some c.mv,none,none]) rfl rfl ⟨dB c,ai⟩ (s52 H g ?_);refine comp_map (β:=Unit) (l:=[]) (f:=λZ=>.none) (λZ=>.none) (.vals []) (λZ h=>nomatch h) (aY aZ (s7 (dA 24 c) _ _ _ _ ⟨_,Aw _ rfl,h⟩))
theorem Fy:∀{a b:List Nat},G3 a b=true->a=b
 |[],[]=>λZ=>rfl
 |[],_::_=>λh=>ft h
 |_::_,[]=>λh=>ft h
 |x::a,y::b=>λh=>by
  have h:(match Nat.beq x y with|true=>G3 a b|false=>false)=true:=h;cases e:Nat.beq x y<;>have h:=e▸h
  ·exact ft h
  ·exact rX (lT e) (rX (Fy h) rfl)
def seq_eq(h:seq a b=true):a=b:=by
 obtain⟨⟨a⟩⟩:=a;obtain⟨⟨b⟩⟩:=b;exact congrArg (λl:List Nat=>(⟨⟨l⟩⟩:Str)) (Fy h)
def Ps.of(s:Str):Option Ps:=jG.find? λp=>seq p.name s
def Ps.Ax(p:Ps):Ps.of p.name=some p:=by cases p<;>kernel_rfl
def s54{p:Ps}(h:Q (.fn p.fn) J):call (run (d+1)) 54 [.str p.name] J Q:=by
 refine fr (af:=[some (.str p.name),none,none]) rfl rfl ⟨ai,ai⟩ ?_
 have k:∀t (P:List Ps) x y,jG=P++t->p∈t->forR (.plain (.vals (jG.map Ps.mv))) (.many [1,2]) (Cu (run d)) t.length P.length [some (.str p.name),x,y] [] (kS (I' (run d)) (eN (rN J Q))):=by
  intro t;induction t with
  |nil=>intro _ _ _ _ h;exact ak h d6
  |cons q t i=>
   intro P x y e c;refine fQ (a:=q.mv) (by refine rX e (rX fD (rX (List.getElem?_append_right (by simp)) ?_));simp) (fQ rfl (cB (λE=>?_) λE=>?_))
   ·have:q=p:=aj (ag (Ps.Ax q) ((congrArg Ps.of (seq_eq E)).trans (Ps.Ax p)));subst this;exact d0 h ai
   ·have H:p≠q:=λb=>by subst b;exact tf (ag (show seq p.name p.name=true by cases p<;>kernel_rfl) E)
    have:=i (P++[q]) (some (.str q.name)) (some (.fn q.fn)) (by refine rX e ?_;rw[append_assoc];rfl) ((hH c).resolve_left H);rw[c9]at this;exact this
 show kp (.plain (.vals (jG.map Ps.mv))) (.many [1,2]) (Cu (run d)) 8 0 [some (.str p.name),none,none] [] _;unfold kp;exact k jG [] none none rfl (by cases p<;>repeat first|exact .head _|apply List.Mem.tail)
def s55(a:Kept G)(g:G c)(h:Q (runs l c).mv J):run (d+5) 55 [c.mv,.aQ (l.map λp=>.str p.name)] J Q:=by
 refine Jz rfl rfl ⟨dB c,eU (f:=λp:Ps=>.str p.name) (λZ=>ai) _,ai⟩ ?_;refine d7 (λp x=>[some (runs p c).mv,some (.aQ (l.map λp=>.str p.name)),x.1,x.2,none]) (λZ Z=>[]) (none,none) (λZ Z=>.vals _) (λp q t y P e H=>?_) rfl rfl λy=>?_
 ·refine s54 (sP q (a.1 _ (a.runs p g)) ?_);have:=H (some (.str q.name),some (.fn q.fn));rw[vA]at this;exact this
 ·refine comp_map (β:=Unit) (l:=[]) (f:=λZ=>.none) (λZ=>.none) (.vals []) (λZ h=>nomatch h) (aY aZ (s7 (runs l c) _ _ _ _ ⟨_,Aw _ rfl,h⟩))
noncomputable def O.ec(o:O):Nat×Nat:=match o with
 | .push _| .self| .aL _| .iQ _=>(0,1)
 | .a8 _| .gN _| .pop| .br _ _| .leave| .again=>(1,0)
 | .send _=>(2,1)
 | .dup=>(1,2)
 | .swap=>(2,2)
 | .aM _=>(0,0)
 | .eO=>(1,1)
def O.told(o:O):MV:=match o with| .send _=>.fn 13|o=>.tup [.int o.ec.1,.int o.ec.2]
def Ay(p:Str->Bool)(h:ones.all (λs=>!p s)=true)(o:O):p o.name=false:=Bool.not_inj (all_eq_true.1 h _ (gh (Aj o)))
inductive Lt[Inhabited Unit]|v|c|n|p|a|s
noncomputable def Lt.ctorIdx[Inhabited Unit](x:Lt):Nat:=x.casesOn 0 1 2 3 4 5
def Lt.ch(l:Lt):Str:=match l with|v=>IW|c=>pH|n=>t_|p=>Cn|a=>Co|s=>Cq
def Opd(l:Lt)(x:MV):Prop:=match l with
 |.v=>True
 |.c| .p=>∃n:Nat,x= .int n
 |.n=>∃s,x= .str s
 |.a=>x= .int 1
 |.s=>x= .tup [.str cE,.none]
noncomputable def O.lets(o:O):List Lt:=match o with
 | .push _=>[.v]
 | .aL _| .a8 _=>[.c,.c]
 | .iQ _| .gN _=>[.n]
 | .send _=>[.n,.a,.s]
 | .aM _| .br _ _=>[.p]
 |_=>[]
def O.xJ(o:O):Str:=match o with
 | .push _=>IW
 | .aL _| .a8 _=>E2
 | .iQ _| .gN _=>t_
 | .send _=>IX
 | .aM _| .br _ _=>Cn
 |_=>k_
def Pq(e:look ks vs s=some v)(h:Q v J):f6 (.dZ ks vs) (.str s) J Q:=by with_unfolding_all exact⟨v,e,h⟩
def J9{Q:Bool->MH->Prop}(e:look ks vs s=some v)(h:Q true J):contains (.str s) (.dZ ks vs) J Q:=by
 with_unfolding_all (show Q (look ks vs s).isSome J)
 exact rX e h
def Pr(e:(look ks vs s).getD v=w)(h:Q w J):eG .l7 (.dZ ks vs) [.str s,v] J Q:=by subst e;with_unfolding_all exact h
def Xx{Q:Unit->MH->Prop}(h:Q () J):kY .l7 (.dZ ks vs) J Q:=by with_unfolding_all exact h
def xK{Q:Bool->MH->Prop}(H:bV J 8 a=some x)(c:bV J 8 b=some y)(e:PyData.eqv x y=t)(h:Q t J):wX g a b J Q:=by
 subst e;with_unfolding_all exact .inr ⟨x,H,y,c,h⟩
def lL{k:Nat}(a:i= .int k)(H:l[k]?=some v)(h:Q v J):f6 (.tup l) i J Q:=by subst a;with_unfolding_all exact⟨k,(cu H),.inl rfl,v,H,h⟩
def fx(f:Nat)(l:List MV)(v:MV):Prop:=∀d J (Q:QV),Q v J->call (run (d+1)) f l J Q
def s8:fx 8 [.int 1] (.int 1):=λd J Q h=>fr (af:=[_]) rfl rfl ⟨ai,ai⟩ (d0 h ai)
def s9:fx 9 [.none] (.int 0):=λd J Q h=>fr (af:=[_]) rfl rfl ⟨ai,ai⟩ (xK (x:=.none) (y:=.str yy) (by kernel_rfl) (by kernel_rfl) rfl (d0 h ai))
def s13(h:Q (.tup [.int 2,.int 1]) J):call (run (d+2)) 13 [R.mv ⟨.send b,g⟩] J Q:=
 fr (af:=[_]) rfl rfl ⟨kh _,ai⟩ (s8 _ _ _ (lL rfl rfl (s9 _ _ _ (d0 h ⟨ai,ai,ai⟩))))
def xM(o:O):∃k vs,jE=.dZ k vs/\look k vs o.name=some o.told:=⟨_,_,rfl,by cases o with|br b t=>cases b<;>kernel_rfl|_=>kernel_rfl⟩
def J_(o:O):o.told=.tup [.int o.ec.1,.int o.ec.2]\/∃b,o=.send b:=by cases o<;>first|exact .inl rfl|exact .inr ⟨_,rfl⟩
def s20{r:R}(h:Q (.tup [.int r.o.ec.1,.int r.o.ec.2]) J):call (run (d+3)) 20 [r.mv] J Q:=by
 refine fr (af:=[some r.mv,none]) rfl rfl ⟨kh _,ai⟩ ?_;obtain⟨k,vs,e,E⟩:=xM r.o;show f6 jE (.str r.o.name) _ _;refine rX e ?_;refine Pq E ?_;obtain e|⟨b,e⟩:=J_ r.o
 ·exact rX e (d0 h ⟨ai,ai,ai⟩)
 ·obtain⟨o,g⟩:=r;subst e;exact s13 (d0 h ⟨ai,ai,ai⟩)
def Xy(i:Int):fx 21 [.int i] (.bool true):=λd J Q h=>fr (af:=[_]) rfl rfl ⟨ai,ai⟩ (d0 h ai)
def s22:fx 22 [.none] (.bool true):=λd J Q h=>fr (af:=[_]) rfl rfl ⟨ai,ai⟩ (d0 h ai)
def s23{r:R}(h:Q (.bool true) J):call (run (d+2)) 23 [r.mv,.tup [.str cE,.none]] J Q:=by
 refine fr (af:=[_,_]) rfl rfl ⟨kh _,⟨ai,ai,ai⟩,ai⟩ ?_;refine iF (Ay (λs=>seq s qa) (by kernel_rfl) r.o) (iF (Ay (λs=>seq s mK) (by kernel_rfl) r.o) ?_);exact lL rfl rfl (jb rfl (lL rfl rfl (s22 _ _ _ (d0 h ai))))
def s24{r:R}(l:Lt)(H:Opd l x)(P:pure x)(h:Q (.bool true) J):call (run (d+3)) 24 [r.mv,.str l.ch,x] J Q:=by
 refine fr (af:=[some r.mv,some (.str l.ch),some x]) rfl rfl ⟨kh _,ai,P,ai⟩ ?_;cases l with
 |v=>exact jb rfl (jb rfl (d0 h ai))
 |n=>obtain⟨s,rfl⟩:=H;exact jb rfl (d0 h ai)
 |c=>obtain⟨n,rfl⟩:=H;exact jb rfl (jb rfl (Xy n _ _ _ (d0 (kd h (by rw[bA (Int.natCast_nonneg n)])) ai)))
 |p=>obtain⟨n,rfl⟩:=H;exact jb rfl (jb rfl (Xy n _ _ _ (d0 (kd h (by rw[bA (Int.natCast_nonneg n)])) ai)))
 |a=>subst H;exact jb rfl (jb rfl (Xy 1 _ _ _ (d0 h ai)))
 |s=>subst H;exact jb rfl (jb rfl (s23 (d0 h ai)))
def opr(o:O):∃k vs,jY=.dZ k vs/\(look k vs o.name).getD (.str k_)=.str o.xJ:=⟨_,_,rfl,by cases o with|br b t=>cases b<;>kernel_rfl|_=>kernel_rfl⟩
def C5(o:O):signs o.xJ=o.lets.map λl=>.str l.ch:=by cases o<;>kernel_rfl
def vB(o:O):o.xJ.length=o.lets.length:=by cases o<;>kernel_rfl
def yT(o:O):o.lets.length<=3:=by cases o<;>exact aR rfl
def C6(o:O):([o.a,o.b,o.c].drop o.lets.length).all isNone=true:=by cases o<;>rfl
def aaw(l:Lt)(x:Option MV):Prop:=∃v,x=some v/\Opd l v/\pure v
def J'(o:O):∀x∈o.lets.zipIdx,aaw x.1 [o.a,o.b,o.c][x.2]?:=by
 cases o with
 |push v=>exact forall_mem_singleton.2 ⟨_,rfl,ai,nz v⟩
 |aL k=>exact forall_mem_cons.2 ⟨⟨_,rfl,⟨0,rfl⟩,ai⟩,forall_mem_singleton.2 ⟨_,rfl,⟨k,rfl⟩,ai⟩⟩
 |a8 k=>exact forall_mem_cons.2 ⟨⟨_,rfl,⟨0,rfl⟩,ai⟩,forall_mem_singleton.2 ⟨_,rfl,⟨k,rfl⟩,ai⟩⟩
 |iQ g=>exact forall_mem_singleton.2 ⟨_,rfl,⟨_,rfl⟩,ai⟩
 |gN g=>exact forall_mem_singleton.2 ⟨_,rfl,⟨_,rfl⟩,ai⟩
 |send b=>exact forall_mem_cons.2 ⟨⟨_,rfl,⟨_,rfl⟩,ai⟩,forall_mem_cons.2 ⟨⟨_,rfl,rfl,ai⟩,forall_mem_singleton.2 ⟨_,rfl,rfl,ai,ai,ai⟩⟩⟩
 |aM t=>exact forall_mem_singleton.2 ⟨_,rfl,⟨t,rfl⟩,ai⟩
 |br b t=>exact forall_mem_singleton.2 ⟨_,rfl,⟨t,rfl⟩,ai⟩
 |_=>exact λZ h=>ak h d6
def Xz{k:Nat}(H:i=.int k)(a:k<=l.length)(b:l.length<=cL)(h:Q (.tup (l.drop k)) J):slice (.tup l) i .none J Q:=by subst H;with_unfolding_all exact⟨k,rfl,a,b,h⟩
def q4(h:J[a]?=some (.list [])):bV J 8 (.lst a)=some (.list []):=by
 show(match J[a]? with|some c=>(match Cd c with|some l=>(dM (bV J 7) l).map PyData.list|none=>none)|none=>none)=_;exact rX h rfl
def Ka(h:Q .none J):fin J Q .none (J++g):=.inr ⟨.none,J,.pure ai,Fj _ _,h⟩
def s29(m:Ok c)(s:r∈c.rows)(h:Q .none J):call (run (d+4)) 29 [.obj 3 [c.mv,se,de,wa],pv,r.mv] J Q:=by
 refine dr (af:=[some (.obj 3 [c.mv,se,de,wa]),some pv,some r.mv,none,none,none,none,none]) rfl rfl ?_
 have Pn:∀x y g,I1 (run (d+3)) [some (.obj 3 [c.mv,se,de,wa]),some pv,some r.mv,some (.str r.o.xJ),some (.tup [r.o.a,r.o.b,r.o.c]),x,y,none] (J++g) (eN (fin J Q)):=λx y g=>by
  refine vm r.o _ ?_;obtain⟨H,_⟩|⟨j,H,i,k⟩:=r.o.js<;>refine rX H ?_
  ·exact Ka h
  ·show hY r.o.a _ _ _;exact rX k (iF (decide_eq_false (by have:=m.t r s j i;refine rX cX ?_;lia)) (Ka h))
 have C3:∀x y,I2 (run (d+3)) [some (.obj 3 [c.mv,se,de,wa]),some pv,some r.mv,some (.str r.o.xJ),some (.tup [r.o.a,r.o.b,r.o.c]),x,y,none] J (eN (fin J Q)):=λx y=>by
  refine fR (by rw[vB];exact bt (yT r.o) (by decide)) (Xz (congrArg (λn:Nat=>MV.int n) (vB r.o)) (yT r.o) (nl rfl) ?_);refine oY (λZ=>none) (by rw[map_id'];exact .vals _) (λv u S w=>?_) ?_
  ·have:=all_eq_true.1 (C6 r.o) v u;exact iF (show(!isNone v)=false by exact rX this rfl) w
  ·refine rX (show(List.filterMap (λ_:MV=>(none:Option MV)) ([r.o.a,r.o.b,r.o.c].drop r.o.lets.length))=[] from filterMap_eq_nil_iff.2 λZ Z=>rfl) ?_;refine aY aZ (aY aZ (xK (q4 (by simp)) (q4 (by simp)) rfl ?_));rw[append_assoc];exact Pn _ _ _
 obtain⟨G,vs,e,B⟩:=xM r.o;obtain⟨C,V,D,E⟩:=opr r.o;show contains (.str r.o.name) jE _ _;refine rX e ?_;refine J9 B ?_;show kY .l7 jY _ (Ss _ jY _ _ _);refine rX D ?_;refine Xx (Pr E (fR (by rw[vB];exact bt (yT r.o) (by decide)) ?_));refine d7 (f:=λx:Lt×Nat=>.tup [.int x.2,.str x.1.ch]) (l:=r.o.lets.zipIdx) (λZ x=>[some (.obj 3 [c.mv,se,de,wa]),some pv,some r.mv,some (.str r.o.xJ),some (.tup [r.o.a,r.o.b,r.o.c]),x.1,x.2,none]) (λZ Z=>J) (none,none) (λZ Z=>C5 r.o▸.enum _) (λp x t y P z A=>?_) rfl rfl λx=>C3 _ _;obtain⟨v,H,i,k⟩:=J' r.o x (by refine rX z ?_;simp);exact fQ rfl (lL rfl H (s24 x.1 i k (A (_,_))))
structure Cons(c:PC)(bf:Nat->Option Nat):Prop where
 start:∀s∈c.starts,bf s=some 0
 low:∀p d r,bf p=some d->c.rows[p]?=some r->r.o.ec.1<=d
 aM:∀p d r q,bf p=some d->c.rows[p]?=some r->r.o.bo=some q->bf q=some (d-r.o.ec.1+r.o.ec.2)
 eR:∀p d r,bf p=some d->c.rows[p]?=some r->r.o.bZ=false->bf (p+1)=some (d-r.o.ec.1+r.o.ec.2)
 hand:∀p d k,bf p=some d->k∈c.ax->k.on p=true->bf k.target=some 1
def o9(c:PC):Prop:=∀r∈c.rows,∀k,(r.o= .aL k\/r.o= .a8 k)->k<c.ns
noncomputable def SK(o:Option Nat):MV:=match o with|none=>.none|some d=>.int d
def dp(bf:Nat->Option Nat)(f:Nat->Bool)(p:Nat):MV:=bif f p then SK (bf p)else .none
def dmap(n:Nat)(bf:Nat->Option Nat)(f:Nat->Bool):List MV:=(List.range n).map (dp bf f)
def rV(n bf f):(dmap n bf f).length=n:=by simp[dmap]
def xN(h:p<n):(dmap n bf f)[p]?=some (dp bf f p):=by unfold dmap;simp[h]
def G9(h:bf p=some d):(dmap n bf f).set p (.int (d:Nat))=dmap n bf λq=>f q||p==q:=by
 unfold dmap;apply ext_getElem (by simp);intro i H a;simp only[getElem_set,getElem_map,getElem_range];by_cases e:p=i
 ·subst e;simp[dp,h,SK]
 ·refine rX (bc e) ?_;unfold dp;dsimp only;refine rX (show(p==i)=false from beq_eq_false_iff_ne.2 e) ?_;rw[Bool.or_false]
def G_(n bf):List.replicate n MV.none=dmap n bf λZ=>false:=by
 unfold dmap;apply ext_getElem (by simp);intro i h H;simp[dp]
abbrev SX:=(Nat->Bool)×List Nat
noncomputable def add(x:SX)(q:Nat):SX:=bif x.1 q then x else(λp=>x.1 p||q==p,x.2++[q])
def j4(l:List Nat)(x:SX):SX:=l.foldl add x
def CH(c:PC)(bf:Nat->Option Nat)(x:SX):MH:=[.list [c.mv],.list [.none],.list (dmap c.rows.length bf x.1),.list (x.2.map er)]
def rc(c:PC):MV:=.obj 3 [c.mv,.lst 0,.lst 2,.lst 3]
def qk(c:PC)(x:SX):Nat:=x.2.length+left c.rows.length x.1
def vC(h:q<c.rows.length):qk c (add x q)=qk c x:=by
 unfold add;cases e:x.1 q
 ·show(x.2++[q]).length+left _ (λp=>x.1 p||q==p)=_+left _ _;have:=(xI e).1 h;refine rX c9 (rX length_singleton ?_);exact bX 0x711601375061150012 rfl this
 ·rfl
def o_:∀(l:List Nat){x:SX},(∀q∈l,q<c.rows.length)->qk c (j4 l x)=qk c x:=by
 intro m;induction m with
 |nil=>exact λZ=>rfl
 |cons q l i=>exact λh=>(i λp H=>h p (fg H)).trans (vC (h q eE))
section
variable{bf:Nat->Option Nat}
def s28(o:Ok c)(H:q<c.rows.length)(a:bf q=some y)(b:qk c x<=1000)(h:Q .none (CH c bf (add x q))):call (run (d+1)) 28 [rc c,.int q,.int y,pv] (CH c bf x) Q:=by
 refine dr rfl rfl ?_;refine iF (show(!decide ((q:Int)<((c.rows.map R.mv).length:Int)))=false by exact rX (bA (rX cX ((λ{n m}=>Int.ofNat_lt.mpr) H))) rfl) ?_;refine aT rfl rfl (xN H) ?_;unfold add at h;have f:dp bf x.1 q=bif x.1 q then .int y else .none:=by unfold dp;exact rX a rfl
 cases e:x.1 q<;>rw[e]at h f<;>refine rX f ?_
 ·exact ja rfl rfl (by rw[rV];exact H) (by rw[rV];exact dR (av o.n)) (G9 a) (dz rfl (iH rfl (iC (ml (by unfold qk at b;exact Nat.le_of_add_right_le b)) (by decide)) (by exact rX fD rfl) (.inl h)))
 ·exact iF (show(!(y:Int)==y)=false by simp) (.inl h)
end
def C7(c:PC)(p:Nat)(r:R)(y:Nat)(z:Option MV):Loc:=[some (rc c),some (.int p),some r.mv,some (.int y),some (.int r.o.ec.1),some (.int r.o.ec.2),z]
def xO(l m:List Nat)(x:SX):j4 (l++m) x=j4 m (j4 l x):=foldl_append
def vD(l:List Nat)(q:Nat)(x:SX):j4 (l++[q]) x=add (j4 l x) q:=xO l [q] x
def yU(p:Nat)(l:List Ct):List Nat:=(l.filter λk=>k.on p).map λk=>k.target
def G'(p:Nat)(l:List Ct)(k:Ct):yU p (l++[k])=bif k.on p then yU p l++[k.target]else yU p l:=by
 unfold yU;rw[filter_append];refine rX fD ?_;cases e:k.on p
 ·refine rX (filter_cons_of_neg (p:=λk:Ct=>k.on p) (rX e (bP))) ?_;refine rX filter_nil ?_;refine rX map_nil ?_;rw[append_nil];rfl
 ·exact rX (filter_cons_of_pos (p:=λk:Ct=>k.on p) e) rfl
def Pt(o:Ok c)(h:∀k∈l,k∈c.ax):∀q∈yU p l,q<c.rows.length:=λq H=>by
 obtain⟨k,a,rfl⟩:=i4 H;exact(o.k k (h k (mem_filter.1 a).1)).2.2
section
variable{bf:Nat->Option Nat}{r:R}
def FA(o:Ok c)(H:v=.int q)(a:u=.int w)(b:q<c.rows.length)(e:bf q=some w)(f:qk c x<=1000)(h:Q .none (CH c bf (add x q))):call (run (d+1)) 28 [rc c,v,u,pv] (CH c bf x) Q:=by subst H a;exact s28 o b e f h
def q3(o:Ok c)(cd:Cons c bf)(b:bf p=some y)(f:qk c x<=1000)(h:∀z,K .next (C7 c p r y z) (CH c bf (j4 (yU p c.ax) x))):I3 (run (d+1)) (C7 c p r y z) (CH c bf x) K:=by
 refine d7 (λZ z=>C7 c p r y z) (λl Z=>CH c bf (j4 (yU p l) x)) z (λZ Z=>.vals _) (λl k t z P e H=>?_) rfl rfl h;have a:k∈c.ax:=by refine rX e ?_;simp
 have H:=H (some k.mv);rw[G']at H;refine s4 (cB (λq=>?_) λq=>?_)<;>rw[q]at H
 ·refine FA o rfl rfl (o.k k a).2.2 (cd.hand p y k b a q) ?_ (by rw[<-vD];exact H);exact rX (o_ _ (Pt o λk a=>by refine rX e ?_;simp[a])) (f)
 ·exact H
def y_eq(h:r.o.ec.1<=y):((y:Int)-(r.o.ec.1:Nat)+(r.o.ec.2:Nat))=((y-r.o.ec.1+r.o.ec.2:Nat):Int):=congrArg (·+(r.o.ec.2:Int)) (Int.ofNat_sub h).symm
def q2(a:Ok c)(cd:Cons c bf)(b:c.rows[p]?=some r)(f:bf p=some y)(g:qk c x<=1000)(h:∀z,K .next (C7 c p r y z) (CH c bf (j4 (yU p c.ax) (j4 (bif r.o.bZ then[]else[p+1]) x)))):I4 (run (d+1)) (C7 c p r y z) (CH c bf x) K:=by
 refine ki Fv (Xq (λq=>?_) λq=>?_)<;>have h:=q▸h
 ·exact q3 a cd f g h
 ·have H:p+1<c.rows.length:=by
   have:=(cu b);by_cases i:p+1=c.rows.length
   ·exact tf (ag (a.e p r b i) q)
   ·exact eX this i
  exact FA a rfl (congrArg MV.int (y_eq (cd.low p y r f b))) H (cd.eR p y r f b q) g (q3 a cd f (bt (bx (vC H)) g) h)
def q1(b:Ok c)(cd:Cons c bf)(H:c.rows[p]?=some r)(e:bf p=some y)(g:qk c x<=1000)(h:∀z,K .next (C7 c p r y z) (CH c bf (j4 (eJ c p) x))):I5 (run (d+1)) (C7 c p r y z) (CH c bf x) K:=by
 have l:eJ c p=r.o.bo.toList++(bif r.o.bZ then[]else[p+1])++yU p c.ax:=by rw[eJ];refine rX H ?_;rfl
 rw[l,xO]at h;refine vm r.o _ ?_;obtain⟨i,f⟩|⟨j,i,f,k⟩:=r.o.js<;>rw[f]at h<;>refine rX i ?_
 ·exact q2 b cd H e g h
 ·have a:=b.t r (gh H) j f;exact FA b k (congrArg MV.int (y_eq (cd.low p y r e H))) a (cd.aM p y r j e H f) g (q2 b cd H e (bt (bx (vC a)) g) h)
def s32(o:Ok c)(cd:Cons c bf)(a:p<c.rows.length)(b:x.1 p=true)(H:bf p=some y)(f:qk c x<=1000)(h:Q .none (CH c bf (j4 (eJ c p) x))):call (run (d+4)) 32 [rc c,.int p] (CH c bf x) Q:=by
 have g:=dv a;refine dr (af:=[some (rc c),some (.int p),none,none,none,none,none]) rfl rfl ?_;refine cV rfl (gR g) (aT rfl rfl (xN a) (s20 ?_));have e:dp bf x.1 p=.int y:=by unfold dp;exact rX b (rX H rfl)
 exact rX e (iF (decide_eq_false (by have:=cd.low p y _ H g;lia)) (q1 o cd g H f λz=>.inl h))
end
section
variable{c:PC}{r:R}
def O.FC(o:O):Bool:=aw [6] o.kd
def FE(o:O):seq o.name jQ=o.FC:=lV (λs=>seq s jQ) _ (by kernel_rfl) o
def s25(h:Q .none J):call (run (d+1)) 25 [r.mv] J Q:=by
 refine fr (af:=[some r.mv,none]) rfl rfl ⟨kh _,ai⟩ ?_;refine iF (Ay (λs=>seq s oR) (by kernel_rfl) r.o)<|jb rfl<|iF (Ay (λs=>c7 s [yz,uo]) (by kernel_rfl) r.o)<|jb rfl<|iF (Ay (λs=>c7 s [k7,oT]) (by kernel_rfl) r.o)<|iF (Ay (λs=>seq s oU) (by kernel_rfl) r.o)<|?_;refine cB (λq=>?_) λq=>iF (Ay (λs=>seq s nH) (by kernel_rfl) r.o)<|iF (Ay (λs=>seq s oV) (by kernel_rfl) r.o)<|d0 h ai;rw[FE]at q;obtain⟨o,g⟩:=r;cases o with
 |send b=>exact lL rfl rfl (d0 h ai)
 |_=>exact ft q
def s31(h:Q .none J):call (run (d+2)) 31 [.obj 3 [c.mv,se,de,wa],pv,r.mv] J Q:=
 dr rfl rfl (s25 (.inl h))
def s30(H:r.o= .aL k\/r.o= .a8 k)(j:k<c.ns)(f:J[0]?=some (.list [c.mv]))(h:Q .none J):call (run (d+1)) 30 [.obj 3 [c.mv,.lst 0,de,wa],pv,r.mv] J Q:=by
 refine dr (af:=[some (.obj 3 [c.mv,.lst 0,de,wa]),some pv,some r.mv]) rfl rfl ?_;have g:r.o.a=.int (0:Nat):=by obtain e|e:=H<;>refine rX e ?_<;>rfl
 have i:r.o.b=.int k:=by obtain e|e:=H<;>refine rX e ?_<;>rfl
 refine ed f ?_;refine rX g ?_;refine aT f g rfl ?_;exact rX i (iF (decide_eq_false (by refine rX cX (rX length_range ?_);lia)) (.inl h))
def dle{b:Nat}(h:a<=b):decide ((a:Int)<=(b:Int))=true:=bA (Int.ofNat_le.2 h)
def dlt{b:Nat}(h:a<b):decide ((a:Int)<(b:Int))=true:=bA (Int.ofNat_lt.2 h)
def nT(h:b=true):(!b)=false:=by rw[h];rfl
def Kb(k:Ct):c7 k.sort [l_,ma]=true:=by unfold Ct.sort;cases k.tv<;>kernel_rfl
def s33(o:Ok c)(h:Q .none J):call (run (d+1)) 33 [.obj 3 [c.mv,se,de,wa]] J Q:=by
 refine dr (af:=[some (.obj 3 [c.mv,se,de,wa]),none,none]) rfl rfl ?_;refine d7 (λZ x=>[some (.obj 3 [c.mv,se,de,wa]),x.1,x.2]) (λZ Z=>J) (none,none) (λZ Z=>.vals _) (λp k t x P e H=>?_) rfl rfl λx=>.inl h;obtain⟨a,b,f⟩:=o.k k (by refine rX e ?_;simp);refine jb rfl (iF (nT (Kb k)) (iT (dlt a) (iF (nT (dle (rX cX b))) (iF (nT (dlt (rX cX f))) (H (_,_))))))
def yV(c:PC)(k:Nat)(x:SX):Prop:=k<=300/\qk c x<=k/\(∀p,x.1 p=true->Reach c p)/\(∀s∈c.starts,x.1 s=true)/\(∀q∈x.2,x.1 q=true)/\∀q,x.1 q=true->q∈x.2\/∀s∈eJ c q,x.1 s=true
end
structure Exd(l:List Nat)(x y:SX):Prop where
 mono:∀p,x.1 p=true->y.1 p=true
 new:∀p,y.1 p=true->x.1 p=true\/(p∈l/\p∈y.2)
 sub:∀p∈y.2,p∈x.2\/y.1 p=true
 keep:∀p∈x.2,p∈y.2
 all:∀q∈l,y.1 q=true
def Pu(q:Nat)(x:SX):Exd [q] x (add x q):=by
 unfold add;cases e:x.1 q
 ·refine⟨λp h=>Bool.or_eq_true_iff.2 (.inl h),λp h=>(pF h).elim .inl λh=>.inr ?_,λp h=>(iZ h).elim .inl λh=>.inr (Bool.or_eq_true_iff.2 (.inr (beq_iff_eq.2 (d5 h).symm))),λp h=>mem_append_left _ h,λp h=>Bool.or_eq_true_iff.2 (.inr (beq_iff_eq.2 (d5 h).symm))⟩;have:=beq_iff_eq.1 h;exact⟨lB this.symm,mem_append_right _ (lB this.symm)⟩
 ·exact⟨λZ h=>h,λZ h=>.inl h,λZ h=>.inl h,λZ h=>h,λp h=>rX (d5 h) e⟩
def Az:∀(l:List Nat)(x:SX),Exd l x (j4 l x):=by
 intro m;induction m with
 |nil=>exact λx=>⟨λZ h=>h,λZ h=>.inl h,λZ h=>.inl h,λZ h=>h,λZ h=>ak h d6⟩
 |cons q l i=>
  intro x;have h:=Pu q x;have k:=i (add x q);refine⟨λp e=>k.mono p (h.mono p e),λp e=>(k.new p e).elim (λe=>(h.new p e).elim .inl λe=>.inr ⟨?_,k.keep p e.2⟩) λe=>.inr ⟨fg e.1,e.2⟩,λp e=>(k.sub p e).elim (λe=>(h.sub p e).elim .inl λe=>.inr (k.mono p e)) .inr,λp e=>k.keep p (h.keep p e),λp e=>(hH e).elim (λe=>k.mono p (h.all p (lB e))) (k.all p)⟩;exact rX (d5 e.1) (eE)
def yV.start(o:Ok c):yV c 300 (j4 c.starts (λZ=>false,[])):=by
 have h:=Az c.starts (λZ=>false,[]);have H:qk c (λZ=>false,[])=0+left c.rows.length λZ=>false:=rfl;exact⟨di,gf 0x701061312c28118711651312c2510 rfl (o_ c.starts o.s) (vy c.rows.length λZ=>false) o.n H,λp e=>(h.new p e).elim (λe=>ft e) λe=>.start e.1,h.all,λq e=>(h.sub q e).elim (λe=>ak e d6) id,λq e=>(h.new q e).elim (λe=>ft e) λe=>.inl e.2⟩
def yV.done(h:yV c k (f,[])):f=en c:=by
 funext p
 have:Reach c p->f p=true:=λH=>by
  induction H with
  |start H=>exact h.2.2.2.1 _ H
  |step _ a i=>exact(h.2.2.2.2.2 _ i).resolve_left d6 _ a
 rw[Bool.eq_iff_iff,g9];exact⟨h.2.2.1 p,this⟩
def yV.step{k f l p}(o:Ok c)(h:yV c k (f,l++[p])):f p=true/\Reach c p/\qk c (f,l)<=1000/\yV c (k-1) (j4 (eJ c p) (f,l))/\k-1<k:=by
 have a:=h.2.1;have d:=h.2.2.1;have g:=h.2.2.2.2.1 p (mem_append_right _ eE);have a:l.length+1+left c.rows.length f<=k:=by have:(l++[p]).length+left c.rows.length f<=k:=a;rwa[c9]at this
 have e:=Az (eJ c p) (f,l);have E:qk c (f,l)=l.length+left c.rows.length f:=rfl;refine⟨g,(d p g),gf 0x87051368117001112c26113e82510 rfl h.1 a E,⟨bt (Nat.sub_le ..) h.1,?_,λq H=>(e.new q H).elim (d q) λH=>(d p g).step H.1,λs b=>e.mono s (h.2.2.2.1 s b),λq H=>(e.sub q H).elim (λH=>e.mono q (h.2.2.2.2.1 q (mem_append_left _ H))) id,λq H=>(e.new q H).elim (λH=>(h.2.2.2.2.2 q H).elim (λH=>?_) λH=>.inr λs b=>e.mono s (H s b)) λH=>.inl H.2⟩,Nat.sub_lt (bX 0x57116001150111 rfl a) Nat.one_pos⟩
 ·exact rX (o_ _ λq H=>xH o H) (Nat.le_sub_of_add_le (gf 0x8705136811700116115010 rfl a E))
 ·obtain H|H:=iZ H
  ·exact .inl (e.keep q H)
  ·cases d5 H;exact .inr e.all
def Cons.next(cd:Cons c bf)(a:bf p=some y)(h:q∈eJ c p):∃y,bf q=some y:=by
 unfold eJ at h;cases H:c.rows[p]? with
 |none=>rw[H]at h;exact ak h d6
 |some r=>
  rw[H]at h;obtain h|h:=iZ h
  ·obtain h|h:=iZ h
   ·exact⟨_,cd.aM _ _ _ _ a H (Option.mem_toList.1 h)⟩
   ·cases d:r.o.bZ<;>have h:=d▸h
    ·obtain rfl:=d5 h;exact⟨_,cd.eR _ _ _ a H d⟩
    ·exact ak h d6
  ·obtain⟨k,b,rfl⟩:=i4 h;exact⟨1,cd.hand _ _ k a (mem_filter.1 b).1 (mem_filter.1 b).2⟩
theorem Cons.some(cd:Cons c bf)(h:Reach c p):∃y,bf p=some y:=by
 induction h with
 |start h=>exact⟨0,cd.start _ h⟩
 |step h a i=>obtain⟨y,H⟩:=i;exact cd.next H a
def O.FG(o:O):Bool:=aw [2,3] o.kd
def Pw(o:O):c7 o.name [dP,dQ]=o.FG:=lV (λs=>c7 s [dP,dQ]) _ (by kernel_rfl) o
def Kc{o:O}(h:o.FG=true):∃k,o=.aL k\/o=.a8 k:=by cases o<;>first|exact ft h|exact⟨_,.inl rfl⟩|exact⟨_,.inr rfl⟩
def Ha(c:PC)(z:Option MV×Option MV×Option MV):Loc:=[some (rc c),z.1,z.2.1,z.2.2]
noncomputable abbrev x0:SX:=(λZ=>false,[])
def XA(o:Ok c)(so:o9 c)(H:r∈c.rows)(h:K .next (Ha c (some (.int i),some r.mv,z)) (CH c bf x0)):I6 (run (d+4)) (Ha c (some (.int i),some r.mv,z)) (CH c bf x0) K:=by
 refine s29 o H (jb rfl (cB (λq=>?_) λq=>s31 h));rw[Pw]at q;obtain⟨k,a⟩:=Kc q;exact s30 a (so r H k a) rfl (s31 h)
def s34(o:Ok c)(so:o9 c)(cd:Cons c bf)(h:Q .none (CH c bf (en c,[]))):call (run (d+5)) 34 [rc c] (CH c bf x0) Q:=by
 refine dr (af:=Ha c (none,none,none)) rfl rfl ?_
 have g:(((c.starts.map er).length:Int)==0)=false:=by
  cases e:c.starts with
  |nil=>exact ak e o.s0
  |cons a l=>exact beq_eq_false_iff_ne.2 (by simp;exact(λ{x y}=>PyProof.Rows.bi_ine.mp) rfl)
 refine jb rfl (iF g ?_);refine d7 (λZ z=>Ha c z) (λZ Z=>CH c bf x0) (none,none,none) (λZ Z=>.enum R.mv) (λp y t z P e H=>fQ rfl (XA o so (qZ e).2.2 (H (some (.int y.2),some y.1.mv,z.2.2)))) rfl rfl λz=>?_;refine s33 o ?_;refine d7 (λZ b=>Ha c (z.1,z.2.1,b)) (λp Z=>CH c bf (j4 p x0)) z.2.2 (λZ Z=>.vals _) (λp s t b P e H=>?_) rfl rfl λb=>?_
 ·have g:s∈c.starts:=by refine rX e ?_;simp
  refine FA o rfl rfl (o.s s g) (cd.start s g) ?_ ?_
  ·refine rX (o_ _ λq r=>o.s q (by refine rX e ?_;simp[r])) ?_;exact bt (by show 0+left _ _<=300;exact ln2 0x12c2611651112c2501010 rfl (vy c.rows.length λZ=>false) o.n) (nl rfl)
  ·have:=H (some (er s));rw[vD]at this;exact this
 refine Fu (λ_:SX=>Ha c (z.1,z.2.1,b)) (λx=>CH c bf x) (yV c) 300 (j4 c.starts x0) (λk x P i H=>?_) rfl rfl (yV.start o);obtain⟨f,l⟩:=x;refine ed rfl ?_;obtain rfl|⟨l',p,rfl⟩:=eq_nil_or_concat l
 ·exact rX i.done (.inl h)
 rw[concat_eq_append]at i⊢;obtain⟨u,j,m,v,w⟩:=i.step o;obtain⟨y,A⟩:=cd.some j;exact iT (bA (by simp)) (CP rfl (C2 rfl fD (ml (bt (bt (ar ..) m:l'.length<=1000) (nl rfl))) (s32 o cd (j.lt o) u A m (H _ _ w v))))
def s35(o:Ok c)(so:o9 c)(cd:Cons c bf)(h:Q (.aQ (dmap c.rows.length bf (en c))) J):call (run (d+6)) 35 [c.mv] J Q:=by
 refine fr (af:=[some c.mv,some (.tup []),none,none]) rfl rfl ⟨dB c,ai⟩ ?_;refine cl rfl rfl ?_;refine aY (nl rfl)<|aY (nl rfl)<|f' rfl<|qe c.rows.length (rX cX rfl)<|aY (rX length_replicate (dR (av o.n)))<|aY (nl rfl)<| .inl ?_;refine rX (G_ c.rows.length bf) ?_;refine s34 o so cd ?_;refine d7 (β:=Unit) (f:=λZ=>.none) (l:=[]) (λZ z=>[some c.mv,some (.tup []),some (rc c),z]) (λZ Z=>CH c bf (en c,[])) none (λZ Z=>.vals _) (λp s t a P e H=>ak e (by simp)) rfl rfl λz=>?_;refine⟨_,.lst aZ rfl (g6 (eU (f:=dp bf (en c)) (λp=>?_) _)),h⟩;unfold dp;cases en c p
 ·trivial
 ·cases bf p<;>trivial
inductive SV|v (x:Vl)|way (x:Vl)
def SV.mv(s:SV):MV:=match s with
 | .v x=>x.mv
 | .way x=>.tup [.str qb,x.mv]
structure St where
 stack:List SV
 slots:List SV
 pI:Bool->Vl
 ej:List (Str×Str)
noncomputable def Vl.rep(v:Vl):Str:=match v with
 | .none=>⟨#[78,111,110,101]⟩
 | .tt=>⟨#[84,114,117,101]⟩
 | .ff=>⟨#[70,97,108,115,101]⟩
 | .i0=>⟨#[48]⟩
 | .i5=>⟨#[53]⟩
 | .i9=>⟨#[57]⟩
 | .s=>⟨#[39,115,39]⟩
 | .main=>⟨#[39,109,97,105,110,39]⟩
def yW:∀i:Int,i=0\/i=5\/i=9->i.natAbs<10 ^ 100:=λi h=>by obtain rfl|rfl|rfl:=h<;>decide
def vE:Str.ofString (toString (0:Int))=Vl.rep .i0/\Str.ofString (toString (5:Int))=Vl.rep .i5/\Str.ofString (toString (9:Int))=Vl.rep .i9:=by decide+kernel
def q5:reprText Cq=Vl.rep .s/\reprText ur=Vl.rep .main:=by decide+kernel
def Px(v:Vl):reprOf v.mv=some v.rep:=by
 cases v with
 |none=>exact congrArg some (by decide+kernel)
 |tt=>exact congrArg some (by decide+kernel)
 |ff=>exact congrArg some (by decide+kernel)
 |i0=>exact(aO (e:=none) (yW _ (.inl rfl))).trans (congrArg some vE.1)
 |i5=>exact(aO (e:=none) (yW _ (.inr (.inl rfl)))).trans (congrArg some vE.2.1)
 |i9=>exact(aO (e:=none) (yW _ (.inr (.inr rfl)))).trans (congrArg some vE.2.2)
 |s=>exact(aO (by refine rX q5.1 ?_;decide)).trans (congrArg some q5.1)
 |main=>exact(aO (by refine rX q5.2 ?_;decide)).trans (congrArg some q5.2)
inductive Act
 |go (f:Nat) (st:St)
 |raise (x:Vl) (st:St)
 |stop (r:List (Str×Str)×Str×Str)
def plain(o:O)(st:St):Option St:=match st with|⟨s,l,b,n⟩=>(match o with
 | .push v=>some ⟨.v v::s,l,b,n⟩
 | .self=>some ⟨.v .main::s,l,b,n⟩
 | .aL k=>l[k]?.map λx=>⟨x::s,l,b,n⟩
 | .a8 k=>(match s with|x::s=>if k<l.length then some ⟨s,l.set k x,b,n⟩else none|[]=>none)
 | .iQ g=>some ⟨.v (b g)::s,l,b,n⟩
 | .gN g=>(match s with|x::s=>(match x with| .v x=>some ⟨s,l,λh=>if h=g then x else b h,n++[(la g,x.rep)]⟩| .way _=>none)|[]=>none)
 | .pop=>(match s with|_::s=>some ⟨s,l,b,n⟩|[]=>none)
 | .dup=>(match s with|x::s=>some ⟨x::x::s,l,b,n⟩|[]=>none)
 | .swap=>(match s with|x::s=>(match s with|y::s=>some ⟨y::x::s,l,b,n⟩|[]=>none)|[]=>none)
 | .eO=>(match s with|x::s=>(match x with| .way x=>some ⟨.v x::s,l,b,n⟩| .v _=>none)|[]=>none)
 |_=>none)
def act(o:O)(f:Nat)(st:St):Option Act:=match st with|⟨s,l,y,n⟩=>(match o with
 | .aM t=>some (.go t ⟨s,l,y,n⟩)
 | .br b t=>(match s with|x::s=>(match x with| .v x=>some (.go (if x.truth=b then t else f) ⟨s,l,y,n⟩)| .way _=>none)|[]=>none)
 | .leave=>(match s with|x::_=>(match x with| .v x=>some (.stop (n,fF,x.rep))| .way _=>none)|[]=>none)
 | .send b=>(match s with|x::s=>(match x with| .v x=>(match s with|_::s=>some (match b with|true=>.raise x ⟨.v x::s,l,y,n++[(vk b,x.rep)]⟩|false=>.go f ⟨.v x::s,l,y,n++[(vk b,x.rep)]⟩)|[]=>none)| .way _=>none)|[]=>none)
 | .again=>(match s with|x::s=>(match x with| .way x=>some (.raise x ⟨s,l,y,n⟩)| .v _=>none)|[]=>none)
 |o=>(plain o ⟨s,l,y,n⟩).map (.go f))
noncomputable def exec(c:PC):Nat->Nat->St->Option (List (Str×Str)×Str×Str)
 |0,_,_=>none
 |n+1,p,st=>match c.rows[p]? with
  |none=>none
  |some r=>match act r.o (p+1) st with
   |none=>none
   |some (.stop res)=>some res
   |some (.go q ha)=>exec c n q ha
   |some (.raise x ha)=>match c.ax.find? (·.on p)with
    |none=>some (ha.ej,nJ,x.rep)
    |some k=>exec c n k.target ⟨[.way x],ha.slots,ha.pI,ha.ej⟩
noncomputable def ql(ns:Nat):St:=⟨[],List.replicate ns (.v .none),λZ=>.none,[]⟩
noncomputable def n3(n:Str×Str):MV:=.tup [.str n.1,.str n.2]
def pJ(s:List SV):List MV:=s.reverse.map SV.mv
def jH(x:SV)(s:List SV):pJ (x::s)=pJ s++[x.mv]:=by unfold pJ;exact rX reverse_cons (rX fD rfl)
def n7(s:List SV):(pJ s).length=s.length:=by unfold pJ;exact rX cX (rX length_reverse rfl)
def dOk(D:List (Str×MV))(f:Bool->Vl)(b:Nat):Prop:=D.length<=b/\∀g,(fN D (la g)).getD .none=(f g).mv
structure MS(J:MH)(sa b:Nat)(st:St):Prop where
 x:J[5]?=some (.list [.lst sa,.lst 2,.iD 3,.lst 4])
 s:J[sa]?=some (.list (pJ st.stack))
 l:J[2]?=some (.list (st.slots.map SV.mv))
 d:∃D,J[3]?=some (.dict D)/\dOk D st.pI b
 n:J[4]?=some (.list (st.ej.map n3))
 ne:sa≠5/\sa≠2/\sa≠3/\sa≠4
 bs:st.stack.length<=b
 bn:st.ej.length<=b
 bl:st.slots.length<=300
section
variable{J:MH}{st:St}
def dF{a:Nat}(g:MC)(h:J[a]?=some c):(J++[g])[a]?=some c:=rX (List.getElem?_append_left (cu h)) h
def n8(C:MC)(h:J[a]?=some c):(J.set a C)[a]?=some C:=List.getElem?_set_self (cu h)
def gP(C:MC)(n:i≠a)(h:J[a]?=some c):(J.set i C)[a]?=some c:=rX (List.getElem?_set_ne n) h
def MS.app(h:MS J sa b st)(g:MC):MS (J++[g]) sa b st:=⟨dF g h.x,dF g h.s,dF g h.l,let⟨D,h1,h2⟩:=h.d;⟨D,dF g h1,h2⟩,dF g h.n,h.ne,h.bs,h.bn,h.bl⟩
def MS.le(h:MS J sa b st)(H:b<=b'):MS J sa b' st:=⟨h.x,h.s,h.l,let⟨D,h1,h2,h3⟩:=h.d;⟨D,h1,bt h2 H,h3⟩,h.n,h.ne,bt h.bs H,bt h.bn H,h.bl⟩
def MS.AA(h:MS J sa b st)(s:List SV){l:List MV}(H:l=pJ s)(a:s.length<=b):MS (J.set sa (.list l)) sa b ⟨s,st.slots,st.pI,st.ej⟩:=by
 subst H;exact⟨gP _ h.ne.1 h.x,n8 _ h.s,gP _ h.ne.2.1 h.l,let⟨D,h1,h2⟩:=h.d;⟨D,gP _ h.ne.2.2.1 h1,h2⟩,gP _ h.ne.2.2.2 h.n,h.ne,a,h.bn,h.bl⟩
def MS.Kd(h:MS J sa b st)(s:List SV){l:List MV}(H:l=s.map SV.mv)(a:s.length<=300):MS (J.set 2 (.list l)) sa b ⟨st.stack,s,st.pI,st.ej⟩:=by
 subst H;exact⟨gP _ (by decide) h.x,gP _ h.ne.2.1.symm h.s,n8 _ h.l,let⟨D,h1,h2⟩:=h.d;⟨D,gP _ (by decide) h1,h2⟩,gP _ (by decide) h.n,h.ne,h.bs,h.bn,a⟩
def MS.Ao(h:MS J sa b st)(s:List (Str×Str)){l:List MV}(H:l=s.map n3)(a:s.length<=b):MS (J.set 4 (.list l)) sa b ⟨st.stack,st.slots,st.pI,s⟩:=by
 subst H;exact⟨gP _ (by decide) h.x,gP _ h.ne.2.2.2.symm h.s,gP _ (by decide) h.l,let⟨D,h1,h2⟩:=h.d;⟨D,gP _ (by decide) h1,h2⟩,n8 _ h.n,h.ne,h.bs,a,h.bl⟩
def pa(a:Str):seq a a=true:=by
 have:∀l:List Nat,G3 l l=true:=λl=>by
  induction l with
  |nil=>rfl
  |cons x l i=>show(match Nat.beq x x with|true=>G3 l l|false=>false)=true;rw[Nat.beq_refl];exact i
 exact this _
def wZ:∀D:List (Str×MV),fN (stored D k v) s=if seq k s=true then some v else fN D s:=by
 intro m;induction m with
 |nil=>
  show(match seq k s with|true=>some v|false=>none)=_;cases seq k s<;>rfl
 |cons e D i=>
  have l:∀(e:Str×MV) D,fN (e::D) s=match seq e.1 s with|true=>some e.2|false=>fN D s:=λZ Z=>rfl
  show fN (match seq e.1 k with|true=>(e.1,v)::D|false=>e::stored D k v) s=_;cases h:seq e.1 k
  ·rw[l,l];refine rX (i) ?_;cases a:seq e.1 s
   ·rfl
   ·exact(bc λH=>by rw[seq_eq H,a]at h;exact tf h).symm
  ·rw[l,l];refine rX (seq_eq h).symm ?_;cases seq e.1 s<;>rfl
def AB:∀D:List (Str×MV),(stored D k v).length<=D.length+1:=by
 intro m;induction m with
 |nil=>exact di
 |cons e D i=>
  show(match seq e.1 k with|true=>(e.1,v)::D|false=>e::stored D k v).length<=_;cases seq e.1 k
  ·exact Nat.succ_le_succ (i)
  ·exact aE _
def C8(g h:Bool):seq (la g) (la h)=(h==g):=by cases g<;>cases h<;>kernel_rfl
def MS.aax(h:MS J sa b st)(i:b<1000)(g:Bool)(x:Vl)(j:∀bH,MS bH sa (b+1) ⟨st.stack,st.slots,λh=>if h=g then x else st.pI h,st.ej⟩->Q () bH):gJ (.iD 3) (.str (la g)) x.mv J Q:=by
 obtain⟨D,c,f,m⟩:=h.d;have H:=h.le (aE b)
 have a:MS (J.set 3 (.dict (stored D (la g) x.mv))) sa (b+1) ⟨st.stack,st.slots,λh=>if h=g then x else st.pI h,st.ej⟩:=
  ⟨gP _ (by decide) H.x,gP _ H.ne.2.2.1.symm H.s,gP _ (by decide) H.l,⟨_,n8 _ c,bt (AB D) (Nat.succ_le_succ f),λk=>by
   rw[wZ,C8];show _=(if k=g then x else st.pI k).mv;by_cases e:k=g
   ·exact rX (aO (beq_iff_eq.2 e)) (rX (aO e) rfl)
   ·exact rX (bc (λh=>e (beq_iff_eq.1 h))) (rX (bc e) (m k))⟩,gP _ (by decide) H.n,H.ne,H.bs,H.bn,H.bl⟩
 with_unfolding_all exact⟨D,c,iC f i,j _ a⟩
end
section
variable{st:St}
def Ke{Q:Bool->MH->Prop}(e:J[a]?=some (.list l))(E:strsOf l=some ks)(h:Q (c7 k ks) J):contains (.str k) (.lst a) J Q:=by with_unfolding_all exact⟨l,e,.inl ⟨k,ks,rfl,E,h⟩⟩
def ey:(J++[c])[J.length]?=some c:=by simp
def c6{Q:Bool->MH->Prop}(H:MS J sa b st)(a:Nat.ble l.length 100=true)(e:strsOf l=some ks)(h:∀bH,MS bH sa b st->Q (c7 k ks) bH):newList l J λv J=>compare .In (.str k) v J Q:=
 aY (bt (nl a) (nl rfl)) (Ke ey e (h _ (H.app _)))
def XB{a k:Nat}{i:Int}{l:List MV}{v:MV}{Q:QV}(e:J[a]?=some (.list l))(b:i+l.length=k)(c:i<0)(H:l[k]?=some v)(h:Q v J):f6 (.lst a) (.int i) J Q:=by
 have:=(cu H)
 with_unfolding_all exact⟨l,e,k,this,.inr b,v,H,h⟩
def yX{a k:Nat}{i:Int}{l l':List MV}{v:MV}{Q:Unit->MH->Prop}(e:J[a]?=some (.list l))(H:i+l.length=k)(b:k<l.length)(c:l.length<=cL)(E:l.set k v=l')(h:Q () (J.set a (.list l'))):gJ (.lst a) (.int i) v J Q:=by
 subst E;with_unfolding_all exact⟨l,e,k,b,.inr H,by refine rX length_set ?_;exact c,h⟩
def MS.push{x:SV}(H:MS J sa b st)(a:b<=900)(h:∀bH,MS bH sa (b+1) ⟨x::st.stack,st.slots,st.pI,st.ej⟩->Q .none bH):eG .append (.lst sa) [x.mv] J Q:=
 iH H.s (by rw[n7];exact iC (bt H.bs a) (by decide)) (jH x _).symm (h _ ((H.le (aE b)).AA (x::st.stack) rfl (Nat.succ_le_succ H.bs)))
def MS.pop{x:SV}{s l y n}(H:MS J sa b ⟨x::s,l,y,n⟩)(a:b<=900)(h:∀bH,MS bH sa b ⟨s,l,y,n⟩->Q x.mv bH):eG .pop (.lst sa) [] J Q:=
 C2 H.s (jH x s) (by rw[n7];exact bt (Nat.le_of_succ_le H.bs) (bt a (nl rfl))) (h _ (H.AA s rfl (Nat.le_of_succ_le H.bs)))
def MS.top{x:SV}{s l y n}(H:MS J sa b ⟨x::s,l,y,n⟩)(h:Q x.mv J):f6 (.lst sa) (.int (-1)) J Q:=vt H.s (jH x s) h
def MS.note{x:Str×Str}(H:MS J sa b st)(a:b<=900)(h:∀bH,MS bH sa (b+1) ⟨st.stack,st.slots,st.pI,st.ej++[x]⟩->Q .none bH):eG .append (.lst 4) [n3 x] J Q:=
 iH H.n (rX cX (iC (bt H.bn a) (by decide))) (by exact rX fD rfl) (h _ ((H.le (aE b)).Ao (st.ej++[x]) rfl (rX c9 (Nat.succ_le_succ H.bn))))
def MS.AD{Q:Unit->MH->Prop}(H:MS J sa b st)(h:Q () J):kY .append (.lst sa) J Q:=dz H.s h
def MS.uc{Q:Unit->MH->Prop}(H:MS J sa b st)(h:Q () J):kY .pop (.lst sa) J Q:=CP H.s h
def kj{v:Vl}(h:Q (.str v.rep) J):builtin .repr [v.mv] J Q:=fQ (Px v) h
def MS.getD(H:MS J sa b st)(h:Q (st.pI g).mv J):eG .nj (.iD 3) [.str (la g)] J Q:=by
 obtain⟨D,a,e,c⟩:=H.d;rw[<-c g]at h
 with_unfolding_all exact⟨D,a,h⟩
def MS.okD{Q:Unit->MH->Prop}(H:MS J sa b st)(h:Q () J):kY .nj (.iD 3) J Q:=by
 obtain⟨D,a,_⟩:=H.d
 with_unfolding_all exact⟨D,a,h⟩
end
section
variable{s:List SV}{l:List SV}{n:List (Str×Str)}
def XC(d:Nat)(S:Nat)(a:MH)(Q:QV)(o:O)(J:MH):Prop:=∀g,E8 (run d) [some (R.mv ⟨o,g⟩),some (.lst 5),some (.lst S),some (.lst 2),some (.iD 3),some (.lst 4),none] J (eN (fin a Q))
def w9(d:Nat)(o:O):Prop:=∀{a J:MH}{sa b st ha}{Q:QV},MS J sa b st->b<=900->plain o st=some ha->(∀bH,MS bH sa (b+1) ha->Q .none bH)->XC d sa a Q o J
def Kf(v:Vl):w9 d (.push v):=λa b c h g=>by
 obtain rfl:=aj c;exact c6 a rfl rfl λcx H=>H.AD<|H.push (x:=.v v) b λe f=>c6 f rfl rfl λi j=>.inl (h _ j)
def Kg:w9 d .self:=λa b c h g=>by
 obtain rfl:=aj c;exact c6 a rfl rfl λcx H=>H.AD<|H.push (x:=.v .main) b λe f=>c6 f rfl rfl λi j=>.inl (h _ j)
def Kh(k:Nat):w9 d (.aL k):=λa b c h g=>by
 obtain⟨x,m,rfl⟩:=Option.map_eq_some_iff.1 c;exact c6 a rfl rfl λcx e=>c6 e rfl rfl λf H=>H.AD<|aT H.l rfl (rX hW (rX m rfl))<|H.push b λi j=>.inl (h _ j)
def Ki(k:Bool):w9 d (.iQ k):=λa b c h g=>by
 obtain rfl:=aj c;exact c6 a rfl rfl λcx e=>c6 e rfl rfl λf H=>H.AD<|H.okD<|H.getD<|H.push (x:=.v _) b λi j=>.inl (h _ j)
def Py:w9 d .pop:=λ{_ _ _ _ st _ _} b c H h g=>by
 refine I λk=>?_;obtain⟨s,l,y,n⟩:=st;cases s with
 |nil=>exact nn H
 |cons x s=>
  obtain rfl:=aj H;exact k (c6 b rfl rfl λcx e=>c6 e rfl rfl λf a=>a.uc<|a.pop c λi j=>.inl (h _ (j.le (aE _))))
def Pz:w9 d .dup:=λ{_ _ _ _ st _ _} b c a h g=>by
 refine I λk=>?_;obtain⟨s,l,y,n⟩:=st;cases s with
 |nil=>exact nn a
 |cons x s=>
  obtain rfl:=aj a;exact k (c6 b rfl rfl λcx e=>c6 e rfl rfl λf H=>H.AD<|H.top<|H.push c λi j=>.inl (h _ j))
def C9:w9 d .eO:=λ{_ _ _ _ st _ _} c b H h g=>by
 refine I λk=>?_;obtain⟨s,l,y,n⟩:=st;cases s with
 |nil=>exact nn H
 |cons x s=>cases x with
  |v x=>exact nn H
  |way x=>
   obtain rfl:=aj H;exact k (c6 c rfl rfl λcx e=>c6 e rfl rfl λf a=>a.AD<|a.uc<|a.pop b λi j=>lL rfl rfl<|j.push (x:=.v x) b λm o=>.inl (h _ o))
def Kj(k:Nat):w9 d (.a8 k):=λ{_ _ _ _ st _ _} e f H h g=>by
 obtain⟨s,l,y,n⟩:=st;cases s with
 |nil=>exact nn H
 |cons x s=>
  have H:(if k<l.length then some (⟨s,l.set k x,y,n⟩:St)else none)=_:=H;by_cases b:k<l.length
  ·rw[aO b]at H;obtain rfl:=aj H;exact c6 e rfl rfl λcx i=>c6 i rfl rfl λj c=>c.uc<|c.pop f λm a=>ja a.l rfl (rX cX b) (rX cX (dR (bt a.bl (nl rfl)))) map_set.symm<| .inl (h _ ((a.Kd (l.set k x) rfl (rX length_set (a.bl))).le (aE _)))
  ·rw[bc b]at H;exact nn H
def MS.XD{st:St}{x:Str×Str}(H:MS J sa (b+1) st)(a:st.ej.length<=b)(c:b<=900)(h:∀bH,MS bH sa (b+1) ⟨st.stack,st.slots,st.pI,st.ej++[x]⟩->Q .none bH):eG .append (.lst 4) [n3 x] J Q:=
 iH H.n (rX cX (iC (bt a c) (by decide))) (by exact rX fD rfl) (h _ (H.Ao (st.ej++[x]) rfl (rX c9 (Nat.succ_le_succ a))))
def AE(x z:SV)(s:List SV):pJ (x::z::s)=pJ s++[z.mv,x.mv]:=by rw[jH,jH,append_assoc];rfl
def MS.gA{x:SV}(a:MS J sa b ⟨x::z::s,l,y,n⟩)(h:Q z.mv J):f6 (.lst sa) (.int (-2)) J Q:=by
 have H:=a.s;rw[AE]at H;exact XB H (k:=(pJ s).length) (by simp;lia) (by decide) (by simp) h
def MS.sA{x:SV}{Q:Unit->MH->Prop}(H:MS J sa b ⟨x::z::s,l,y,n⟩)(c:b<=900)(h:∀bH,MS bH sa b ⟨w::z::s,l,y,n⟩->Q () bH):gJ (.lst sa) (.int (-1)) w.mv J Q:=by
 have a:=H.s;have d:((pJ s).length+2)<=900:=by rw[n7];exact bt H.bs c
 rw[AE]at a;exact yX a (k:=(pJ s).length+1) (by simp;lia) (by simp) (by simp;exact dR (Nat.lt_add_left _ d)) (by rw[AE];simp) (h _ (H.AA (s:=w::z::s) rfl H.bs))
def MS.sB{x:SV}{Q:Unit->MH->Prop}(H:MS J sa b ⟨x::z::s,l,y,n⟩)(c:b<=900)(h:∀bH,MS bH sa b ⟨x::w::s,l,y,n⟩->Q () bH):gJ (.lst sa) (.int (-2)) w.mv J Q:=by
 have a:=H.s;have d:((pJ s).length+2)<=900:=by rw[n7];exact bt H.bs c
 rw[AE]at a;exact yX a (k:=(pJ s).length) (by simp;lia) (by simp) (by simp;exact dR (Nat.lt_add_left _ d)) (by rw[AE];simp) (h _ (H.AA (s:=x::w::s) rfl H.bs))
def Kk(k:Bool):w9 d (.gN k):=λ{_ _ _ _ st _ _} f H a h g=>by
 refine I λi=>?_;obtain⟨s,l,y,n⟩:=st;cases s with
 |nil=>exact nn a
 |cons x s=>cases x with
  |way x=>exact nn a
  |v x=>
   obtain rfl:=aj a;exact i (c6 f rfl rfl λcx j=>c6 j rfl rfl λm b=>b.uc<|b.pop H λo c=>c.aax (iC H (a5 _ _)) k x λp e=>dz e.n<|kj<|e.XD (x:=(la k,x.rep)) c.bn H λr t=>.inl (h _ t))
def Kl:w9 d .swap:=λ{_ _ _ _ st _ _} c b H h g=>by
 refine I λk=>?_;obtain⟨s,l,y,n⟩:=st;cases s with
 |nil=>exact nn H
 |cons x s=>cases s with
  |nil=>exact nn H
  |cons z s=>
   obtain rfl:=aj H;exact k (c6 c rfl rfl λcx e=>c6 e rfl rfl λf a=>a.gA<|a.top<|a.sA b λi j=>j.sB b λm o=>.inl (h _ (o.le (aE _))))
def O.q7(o:O):Bool:=aw [0,1,2,3,4,5,7,8,9,14] o.kd
def s68{r:R}{st:St}(a:MS J sa b st)(c:b<=900)(H:plain r.o st=some ha)(h:∀bH,MS bH sa (b+1) ha->Q .none bH):call (run (d+1)) 68 [r.mv,.lst 5] J Q:=by
 refine dr (af:=[some r.mv,some (.lst 5),none,none,none,none,none]) rfl rfl (f' a.x ?_);obtain⟨o,g⟩:=r
 have e:∀o,plain o st=some ha->XC d sa J Q o J:=λo H=>by
  cases o with
  |push v=>exact Kf v a c H h
  |self=>exact Kg a c H h
  |aL k=>exact Kh k a c H h
  |iQ k=>exact Ki k a c H h
  |a8 k=>exact Kj k a c H h
  |gN k=>exact Kk k a c H h
  |pop=>exact Py a c H h
  |dup=>exact Pz a c H h
  |swap=>exact Kl a c H h
  |eO=>exact C9 a c H h
  |_=>exact nn H
 exact e o H g
def tH{r:R}{st:St}(e:MS J sa b st)(f:r.o.q7=false)(h:∀bH,MS bH sa b st->Q .none bH):call (run (d+1)) 68 [r.mv,.lst 5] J Q:=by
 refine dr (af:=[some r.mv,some (.lst 5),none,none,none,none,none]) rfl rfl (f' e.x ?_);obtain⟨o,g⟩:=r
 have k:∀o,o.q7=false->XC d sa J Q o J:=λo f g=>by
  cases o with
  |aM t=>exact c6 e rfl rfl λcx H=>c6 H rfl rfl λa c=>.inl (h _ c)
  |br q t=>cases q<;>exact c6 e rfl rfl λcx H=>c6 H rfl rfl λa c=>.inl (h _ c)
  |leave=>exact c6 e rfl rfl λcx H=>c6 H rfl rfl λa c=>.inl (h _ c)
  |send q=>exact c6 e rfl rfl λcx H=>c6 H rfl rfl λa c=>.inl (h _ c)
  |again=>exact c6 e rfl rfl λcx H=>c6 H rfl rfl λa c=>.inl (h _ c)
  |_=>exact tf f
 exact k o f g
end
abbrev Res:=List (Str×Str)×Str×Str
def iU(r:Res):MV:=.aQ [.aQ (r.1.map n3),.str r.2.1,.str r.2.2]
def XE(r:Res):pure (iU r):=⟨eU (f:=n3) (λZ=>⟨ai,ai,ai⟩) _,ai,ai,ai⟩
structure Z7 where
 q8:Option MV
 row:Option MV
 stk:Option MV
 wr:Option MV
 val:Option MV
 sm:Option MV
 one:Option MV
def Km(c:PC)(s p:Nat)(z:Z7):Loc:=[some c.mv,some (.int s),some (.lst 5),some (.int p),z.q8,z.row,z.stk,z.wr,z.val,z.sm,z.one]
def tI(K:QK)(r:Res):Prop:=∀af J s b st a e,r=(st.ej,a,e)->MS J s b st->newList [.lst 4,.str a,.str e] J λv J=>K (.ret v) af J
def pL(c:PC)(s b:Nat)(P:Loc->MH->Prop)(q:Nat)(st:St):Prop:=∀J S z,MS J S (b+1) st->P (Km c s q z) J
section
variable{st:St}{z:Z7}
def s67(v:Vl)(h:Q (.bool v.truth) J):call (run (d+1)) 67 [v.mv] J Q:=by
 refine fr (af:=[some v.mv]) rfl rfl ⟨nz v,ai⟩ ?_;cases v with
 |none=>exact d0 h ai
 |tt=>exact kj (d0 h ai)
 |ff=>exact kj (d0 h ai)
 |i0=>exact kj (d0 h ai)
 |i5=>exact kj (d0 h ai)
 |i9=>exact kj (d0 h ai)
 |s=>exact kj (d0 h ai)
 |main=>exact kj (d0 h ai)
def XF(H:MS J sa b st)(h:Q (iU (st.ej,a,e)) Pk):newList [.lst 4,.str a,.str e] J (λv J=>rN Pk Q v J):=
 aY (nl rfl) ⟨_,.lst aZ ey (.cons (.lst aZ (H.app _).n (g6 (eU (f:=n3) (λZ=>⟨ai,ai,ai⟩) _))) (g6 ⟨ai,ai,ai⟩)),h⟩
def XG(k:Ct)(p:Nat):k.on p=(decide ((k.first:Int)<(p:Int)+1)&&decide ((p:Int)+1<=(k.last:Int))):=by
 unfold Ct.on;rw[Bool.eq_iff_iff,Bool.and_eq_true,Bool.and_eq_true,decide_eq_true_iff,decide_eq_true_iff,decide_eq_true_iff,decide_eq_true_iff];exact⟨λh=>⟨Int.ofNat_lt.2 (Nat.lt_succ_of_le h.1),Int.ofNat_le.2 h.2⟩,λh=>⟨Nat.le_of_lt_succ (Int.ofNat_lt.1 h.1),Int.ofNat_le.1 h.2⟩⟩
def rW(c:PC)(p:Nat)(x:Vl)(st:St)(Q:Res->Prop)(G:Nat->St->Prop):Prop:=match c.ax.find? (·.on p)with
 |none=>Q (st.ej,nJ,x.rep)
 |some k=>G k.target ⟨[.way x],st.slots,st.pI,st.ej⟩
def XH{Q:Bool->MH->Prop}(e:J[a]?=some (.list l))(E:J[a']?=some (.list []))(H:l≠[])(h:Q false J):wX true (.lst a) (.lst a') J Q:=by
 with_unfolding_all exact .inl ⟨rfl,ai,ai,l,e,[],E,by simpa using H,h⟩
def XI(e:J[a]?=some (.list l))(h:Q (.lst J.length) (J++[.list []])):slice (.lst a) .none (.int 0) J Q:=by
 with_unfolding_all refine⟨l,e,0,rfl,?_⟩
 exact aY (nl rfl) h
def yY(H:J[a]?=some (.list l))(b:J[e]?=some (.list m))(c:(l++m).length<=cL)(h:Q (.lst J.length) (J++[.list (l++m)])):binop .add (.lst a) (.lst e) J Q:=
 f' H (f' b (aY c h))
def XJ(p:Nat):∀l:List Ct,l.filterMap (λk=>bif k.on p then some k.mv else none)=(l.filter λk=>k.on p).map Ct.mv:=by
 intro m;induction m with
 |nil=>exact rfl
 |cons k l i=>
  refine rX filterMap_cons (rX filter_cons (rX (i) ?_));cases k.on p<;>rfl
def MS.aay(h:MS J sa b st)(x:Vl):MS ((J++[MC.list [(SV.way x).mv]]).set 5 (.list [.lst J.length,.lst 2,.iD 3,.lst 4])) J.length (b+1) ⟨[.way x],st.slots,st.pI,st.ej⟩:=by
 have a:=(cu h.x);have H:=(h.app (.list [(SV.way x).mv])).le (aE b);exact⟨n8 _ H.x,gP _ (cm a) ey,gP _ (by decide) H.l,let⟨D,h1,h2⟩:=H.d;⟨D,gP _ (by decide) h1,h2⟩,gP _ (by decide) H.n,⟨Ne.symm (cm a),λY=>gY (et 0x2151355112011110 rfl a Y),λY=>gY (et 0x3151355112011110 rfl a Y),λY=>gY (et 0x4151355112011110 rfl a Y)⟩,by show 1<=b+1;exact a5 1 b,H.bn,H.bl⟩
def AF(l:MS J sa b st)(g:c.ax.length<=100)(n:b<=900)
 (h:rW c p x st (tI K) (pL c s b P)):
 Je (run d) (Km c s (p+1) ⟨z.q8,z.row,some (.lst sa),some (.tup [.str qb,x.mv]),z.val,z.sm,z.one⟩) J (kFor K P):=by
 refine oY (λk=>bif k.on p then some k.mv else none) (.vals _) (λk o S H=>?_) ?_
 ·rw[XG]at H;refine cB (λq=>cB (λQ=>?_) λQ=>?_) λq=>?_
  ·rw[show decide ((k.first:Int)<(p:Int)+1)=true from q,show decide ((p:Int)+1<=(k.last:Int))=true from Q]at H;exact H
  ·rw[show decide ((k.first:Int)<(p:Int)+1)=true from q,show decide ((p:Int)+1<=(k.last:Int))=false from Q]at H;exact H
  ·rw[show decide ((k.first:Int)<(p:Int)+1)=false from q]at H;exact H
 rw[XJ];have m:(c.ax.filter λk=>k.on p).length<=100:=bt (length_filter_le ..) g;have i:(c.ax.filter λk=>k.on p).head?=c.ax.find? (·.on p):=List.head?_filter;unfold rW at h;rw[<-i]at h;have j:=l.app (.list ((c.ax.filter λk=>k.on p).map Ct.mv));have a:=j.app (.list []);refine aY (ml (bt m (nl rfl)))<|aY (nl rfl) ?_;cases e:c.ax.filter (λk=>k.on p)with
 |nil=>
  rw[e]at h j a;exact xK (q4 (dF _ ey)) (q4 ey) rfl<|aT a.x rfl rfl<|lL rfl rfl<|kj<|h _ _ _ _ _ _ _ rfl a
 |cons k f=>
  rw[e]at h j a;refine XH (dF _ ey) ey (aN _ _)<|aT (dF (.list []) (ey)) rfl rfl<|XI a.s<|aY (nl rfl)<|yY (dF _ ey) ey (nl rfl) ?_;exact ja ((((a.app (.list [])).app (.list [(SV.way x).mv]))).app (.list [(SV.way x).mv])).x rfl (nl rfl) (nl rfl) rfl<|aT (gP _ (by have:=(cu l.x);exact cm this) (dF _ (dF _ (dF _ (dF (.list []) (ey)))))) rfl rfl<|h _ _ ⟨z.q8,z.row,some (.lst sa),some (.tup [.str qb,x.mv]),z.val,some (.lst J.length),z.one⟩ ((((a.app (.list [])).app (.list [(SV.way x).mv]))).aay x)
end
def O.AG(o:O):Bool:=aw [15] o.kd
def Kn(o:O):seq o.name il=o.AG:=lV (λs=>seq s il) _ (by kernel_rfl) o
def FH(o:O):c7 o.name [cy,bB]=o.g7:=lV (λs=>c7 s [cy,bB]) _ (by kernel_rfl) o
def j5{o:O}(h:o.q7=true):o.g8=false/\o.isJ=false/\o.g7=false/\o.FC=false/\o.AG=false:=by cases o<;>first|exact ft h|exact⟨rfl,rfl,rfl,rfl,rfl⟩
def uA{st:St}(h:o.q7=true):act o f st=(plain o st).map (.go f):=by cases o<;>first|exact ft h|rfl
def ud(d:Nat)(c:PC)(s p:Nat)(o:O)(S:Nat)(K:QK)(P:Loc->MH->Prop)(J:MH):Prop:=∀(g:Nat) (z:Z7),E9 (run (d+2)) (Km c s (p+1) ⟨z.q8,some (R.mv ⟨o,g⟩),some (.lst S),some .none,z.val,z.sm,z.one⟩) J (kFor K P)
section
variable{st:St}
def aaz(H:o.q7=true)(f:MS J sa b st)(i:b<=890)(j:plain o st=some ha)(h:pL c s b P (p+1) ha):ud d c s p o sa K P J:=λg z=>by
 refine iF ((vp o).trans ((j5 H).1))<|iF ((kF o).trans ((j5 H).2.1))<|c6 f rfl rfl λcx a=>iF ((FH o).trans ((j5 H).2.2.1))<|iF ((FE o).trans ((j5 H).2.2.2.1))<|iF ((Kn o).trans ((j5 H).2.2.2.2))<|s68 a (bt i (nl rfl)) j λk e=>?_;exact h _ _ ⟨z.q8,_,_,_,z.val,z.sm,z.one⟩ e
def Ko(H:MS J sa b ⟨.v x::t,l,y,n⟩)(a:b<=890)(h:tI K (n,fF,x.rep)):ud d c s p .leave sa K P J:=λg z=>
 aT H.x rfl rfl<|H.uc<|H.pop (bt a (nl rfl)) λcx e=>kj<|h _ _ _ _ _ _ _ rfl e
def PA(a:MS J sa b st)(h:pL c s b P t st):ud d c s p (.aM t) sa K P J:=λg z=>
 tH a rfl λe H=>h _ _ ⟨z.q8,_,_,_,z.val,z.sm,z.one⟩ (H.le (aE b))
def FJ(h:MS J sa b ⟨.v x::u,l,y,n⟩)(H:b<=890)(c:∀a,MS a sa b ⟨u,l,y,n⟩->Q' (.bool x.truth) a):eG .pop (.lst sa) [] J λv J=>call (run (d+2)) 67 [v] J Q':=h.pop (bt H (nl rfl)) λa e=>s67 x (c _ e)
def XK(a:MS J sa b ⟨.v x::u,l,y,n⟩)(f:b<=890)(e:x.truth=true)(h:pL c s b P t ⟨u,l,y,n⟩):ud d c s p (.br true t) sa K P J:=λg z=>
 c6 a rfl rfl λcx H=>H.uc<|FJ H f λi j=>rX e (tH j rfl λk m=>h _ _ ⟨z.q8,_,_,_,z.val,z.sm,z.one⟩ (m.le (aE b)))
def XM(a:MS J sa b ⟨.v x::u,l,y,n⟩)(f:b<=890)(e:x.truth=false)(h:pL c s b P t ⟨u,l,y,n⟩):ud d c s p (.br false t) sa K P J:=λg z=>
 c6 a rfl rfl λcx H=>H.uc<|FJ H f λi j=>rX e (tH j rfl λk m=>h _ _ ⟨z.q8,_,_,_,z.val,z.sm,z.one⟩ (m.le (aE b)))
def XN(a:MS J sa b ⟨.v x::u,l,y,n⟩)(f:b<=890)(e:x.truth=false)(h:pL c s b P (p+1) ⟨u,l,y,n⟩):ud d c s p (.br true t) sa K P J:=λg z=>
 c6 a rfl rfl λcx H=>H.uc<|FJ H f λi j=>rX e (tH j rfl λk m=>h _ _ ⟨z.q8,_,_,_,z.val,z.sm,z.one⟩ (m.le (aE b)))
def XO(a:MS J sa b ⟨.v x::u,l,y,n⟩)(f:b<=890)(e:x.truth=true)(h:pL c s b P (p+1) ⟨u,l,y,n⟩):ud d c s p (.br false t) sa K P J:=λg z=>
 c6 a rfl rfl λcx H=>H.uc<|FJ H f λi j=>rX e (tH j rfl λk m=>h _ _ ⟨z.q8,_,_,_,z.val,z.sm,z.one⟩ (m.le (aE b)))
def Kp(f:MS J sa b ⟨.way x::u,l,y,n⟩)(a:b<=890)(H:c.ax.length<=100)(h:rW c p x ⟨u,l,y,n⟩ (tI K) (pL c s (b+1) P)):ud d c s p .again sa K P J:=λg z=>
 c6 f rfl rfl λcx e=>e.uc<|e.pop (bt a (nl rfl)) λi j=>tH j rfl λk m=>AF (z:=⟨z.q8,some (R.mv ⟨.again,g⟩),none,none,z.val,z.sm,z.one⟩) (m.le (aE b)) H (iC a (a5 _ _)) h
def MS.sT{x:SV}{u l y n}(H:MS J sa b ⟨x::u,l,y,n⟩)(c:b<=890)(h:∀bH,MS bH sa b ⟨w::u,l,y,n⟩->Q () bH):gJ (.lst sa) (.int (-1)) w.mv J Q:=by
 have a:=H.s;have d:((pJ u).length+1)<=890:=by rw[n7];exact bt H.bs c
 rw[jH]at a;exact yX a (k:=(pJ u).length) (by simp;lia) (by simp) (by simp;exact dR (Nat.lt_add_left _ d)) (by rw[jH];simp) (h _ (H.AA (s:=w::u) rfl H.bs))
def PB(f:MS J sa b ⟨.v x::w::u,l,y,n⟩)(H:b<=890)(h:pL c s b P (p+1) ⟨.v x::u,l,y,n++[(yA,x.rep)]⟩):ud d c s p (.send false) sa K P J:=λg z=>
 c6 f rfl rfl λcx e=>e.uc<|e.pop (bt H (nl rfl)) λi j=>j.sT H λk a=>aT a.x rfl rfl<|dz a.n<|kj<|a.note (bt H (nl rfl)) λm o=>tH o rfl λr t=>h _ _ ⟨z.q8,some (R.mv ⟨.send false,g⟩),some (.lst sa),some .none,some x.mv,z.sm,z.one⟩ t
def PD(i:MS J sa b ⟨.v x::w::u,l,y,n⟩)(H:b<=890)(a:c.ax.length<=100)(h:rW c p x ⟨.v x::u,l,y,n++[(uq,x.rep)]⟩ (tI K) (pL c s (b+1) P)):ud d c s p (.send true) sa K P J:=λg z=>
 c6 i rfl rfl λcx f=>f.uc<|f.pop (bt H (nl rfl)) λj k=>k.sT H λm e=>aT e.x rfl rfl<|dz e.n<|kj<|e.note (bt H (nl rfl)) λo r=>tH r rfl λt A=>AF (z:=⟨z.q8,some (R.mv ⟨.send true,g⟩),none,none,some x.mv,z.sm,z.one⟩) A a (iC H (a5 _ _)) h
end
section
variable{st:St}
def pL.le(h:pL c s b' P q st)(H:b<=b'):pL c s b P q st:=λJ S z a=>h J S z (a.le (Nat.succ_le_succ H))
def XP(c:PC)(s b p:Nat)(K:QK)(P:Loc->MH->Prop)(st:St)(o:O):Prop:=∃a,act o (p+1) st=some a/\match a with
 | .stop r=>tI K r
 | .go q ha=>pL c s (b+1) P q ha
 | .raise x ha=>rW c p x ha (tI K) (pL c s (b+1) P)
def PF(g:MS J sa b st)(m:b<=880)(i:c.ax.length<=100)(h:XP c s b p K P st o):ud d c s p o sa K P J:=by
 refine I λk=>?_;have H:b<=890:=by exact av m
 obtain⟨a,f,h⟩:=h;cases j:o.q7 with
 |true=>
  rw[uA j]at f;obtain⟨S,r,rfl⟩:=Option.map_eq_some_iff.1 f;exact k (aaz j g H r (h.le (aE b)))
 |false=>
  obtain⟨s,l,y,n⟩:=st;cases o with
  |aM t=>obtain rfl:=aj f;exact k (PA g (h.le (aE b)))
  |again=>cases s with
   |nil=>exact nn f
   |cons x s=>cases x with
    |v x=>exact nn f
    |way x=>obtain rfl:=aj f;exact k (Kp g H i h)
  |leave=>cases s with
   |nil=>exact nn f
   |cons x s=>cases x with
    |way x=>exact nn f
    |v x=>obtain rfl:=aj f;exact k (Ko g H h)
  |br q t=>cases s with
   |nil=>exact nn f
   |cons x s=>cases x with
    |way x=>exact nn f
    |v x=>
     obtain rfl:=aj f;cases q<;>cases e:x.truth<;>have h:=e▸h
     ·exact k (XM g H e (h.le (aE b)))
     ·exact k (XO g H e (h.le (aE b)))
     ·exact k (XN g H e (h.le (aE b)))
     ·exact k (XK g H e (h.le (aE b)))
  |send q=>cases s with
   |nil=>exact nn f
   |cons x s=>cases x with
    |way x=>exact nn f
    |v x=>cases s with
     |nil=>exact nn f
     |cons w s=>
      cases q
      ·obtain rfl:=aj f;exact k (PB g H (h.le (aE b)))
      ·obtain rfl:=aj f;exact k (PD g H i h)
  |_=>exact tf j
def turn(h:exec c (n+1) p st=some res)(j:MS J sa b st)(u:b<=880)(H:c.ax.length<=100)(l:tI K res)(m:∀q S,exec c n q S=some res->pL c s (b+1) P q S):E_ (run (d+2)) (Km c s p z) J (kFor K P):=by
 refine I λv=>?_;dsimp only[exec]at h;cases f:c.rows[p]? with
 |none=>have h:=f▸h;exact nn h
 |some r=>
  rw[f]at h
  have e:ud d c s p r.o sa K P J:=PF j u H (by
   dsimp only at h;cases i:act r.o (p+1) st with
   |none=>rw[i]at h;exact nn h
   |some a=>
    rw[i]at h;refine⟨a,i,?_⟩;cases a with
    |stop r=>obtain rfl:=aj h;exact l
    |go q S=>exact m q S h
    |raise x S=>
     dsimp only at h⊢;unfold rW;cases t:c.ax.find? (·.on p)with
     |none=>rw[t]at h;obtain rfl:=aj h;exact l
     |some k=>rw[t]at h;exact m _ _ h)
  exact v (cV rfl (gR f)<|aT j.x rfl rfl<|e r.g ⟨z.q8,none,none,none,z.val,z.sm,z.one⟩)
end
structure X70 where
 J:MH
 sa:Nat
 b:Nat
 st:St
 p:Nat
 z:Z7
noncomputable def z0:Z7:=⟨none,none,none,none,none,none,none⟩
def I70(c:PC)(r:Res)(k:Nat)(x:X70):Prop:=MS x.J x.sa x.b x.st/\x.b+2*k<=600/\exec c k x.p x.st=some r
def vF(c:PC)(s:Nat):Res:=(exec c 300 s (ql c.ns)).getD ([],k_,k_)
section
variable{c:PC}
def yZ(h:c.ns<=300):MS [.list [],.list [.none],.list (List.replicate c.ns .none),.dict [],.list [],.list [.lst 0,.lst 2,.iD 3,.lst 4]] 0 0 (ql c.ns):=
 ⟨rfl,rfl,by show some (MC.list (List.replicate c.ns .none))=some (.list ((List.replicate c.ns (SV.v .none)).map SV.mv));exact rX map_replicate rfl,⟨[],rfl,di,λZ=>rfl⟩,rfl,⟨by decide,by decide,by decide,by decide⟩,di,di,by show(List.replicate c.ns (SV.v .none)).length<=300;exact rX length_replicate h⟩
def s70(o:Ok c)(l:c.ns<=200)(f:exec c 300 s (ql c.ns)=some res)(h:Q (iU res) J):call (run (d+3)) 70 [c.mv,.int s] J Q:=by
 have m:(cL:Int)=1000000:=rfl;refine fr rfl rfl ⟨dB c,ai,ai⟩ ?_;refine aY (nl rfl)<|aY (nl rfl)<|f' rfl<|qe c.ns (rX cX (rX length_range rfl))<|aY (rX length_replicate (dR (av l)))<|aY (nl rfl)<|aY (nl rfl)<|lX rfl (by refine rX m ?_;decide) (by refine rX m ?_;decide) ?_;have u:tI (kS (Fb (run (d+2))) (eN (rN J Q))) res:=λaf cx v b st a e E g=>XF g (E▸h);refine vz (λx:X70=>Km c s x.p x.z) (λx=>x.J) (I70 c res) ⟨_,0,0,ql c.ns,s,z0⟩ (λZ=>.vals _) (λk i x P w H r=>?_) rfl rfl ⟨yZ (bt l (nl rfl)),nl rfl,f⟩ λx H=>nn H.2.2;have n:=H.2.1;exact turn (z:=⟨some (.int i),x.z.row,x.z.stk,x.z.wr,x.z.val,x.z.sm,x.z.one⟩) H.2.2 H.1 (ln2 0x258211602350113702510 rfl n) o.kn u λq S f bH j t g=>r ⟨bH,j,x.b+2,S,q,t⟩ ⟨g,by show x.b+2+2*k<=600;exact ln2 0x2582116023501125826232150010 rfl n,f⟩
def s69(o:Ok c)(a:c.ns<=200)(b:∀s∈c.starts,∃r,exec c 300 s (ql c.ns)=some r)(h:Q (.aQ (c.starts.map λs=>iU (vF c s))) J):call (run (d+4)) 69 [c.mv] J Q:=by
 refine fr (af:=[some c.mv,none]) rfl rfl ⟨dB c,ai⟩ ?_;refine comp_map (λs=>iU (vF c s)) (.vals _) (λs e S f=>?_) (aY (ml (bt o.sn (nl rfl))) ⟨_,.lst aZ rfl (g6 (eU (λZ=>XE _) _)),h⟩);obtain⟨r,H⟩:=b s e;have:vF c s=r:=by unfold vF;exact rX H rfl
 exact s70 o a H (this▸f)
end
def lj(a b:Str):(a==b)=seq a b:=by
 cases e:seq a b
 ·exact beq_eq_false_iff_ne.2 λh=>by rw[h,pa]at e;exact tf e
 ·exact beq_iff_eq.2 (seq_eq e)
def n9(J:MH)(n:Nat)(h:PyData.strOk s=true):bV J (n+1) (.str s)=some (.str s):=aO h
def n_(o:O):PyData.strOk o.name=true:=by cases o with|br b t=>cases b<;>kernel_rfl|_=>kernel_rfl
def C_(J:MH)(n:Nat):∀{l:List Str},(∀s∈l,PyData.strOk s=true)->dM (bV J (n+1)) (l.map .str)=some (l.map .str):=by
 intro m;induction m with
 |nil=>exact λZ=>rfl
 |cons s l i=>exact λh=>d_ (n9 J n (h s eE)) (i λx H=>h x (fg H))
def Kq(h:J[a]?=some (.list l))(k:dM (bV J n) l=some d):bV J (n+1) (.lst a)=some (.list d):=by
 show(match J[a]? with|some c=>(match Cd c with|some l=>(dM (bV J n) l).map PyData.list|none=>none)|none=>none)=_;refine rX h ?_;show(dM (bV J n) l).map PyData.list=_;exact rX k rfl
def rY{l:List Str}(h:J[a]?=some (.list (l.map .str)))(k:∀s∈l,PyData.strOk s=true):bV J (n+2) (.lst a)=some (.list (l.map .str)):=Kq h (C_ J n k)
def oa(l m:List PyData):PyData.eqv (.list l) (.list m)=PyData.eqvAll l m:=by rw[PyData.eqv]
def q9(a b:Str):PyData.eqv (.str a) (.str b)=seq a b:=by rw[PyData.eqv,lj]
def Kr(a b e f:Str):PyData.eqv (.list [.str a,.str b]) (.list [.str e,.str f])=(seq a e&&seq b f):=by
 rw[oa,e_,e_,q9,q9,show PyData.eqvAll [] []=true from rfl,Bool.and_true]
def uB(c:PC)(p:Nat):Prop:=∀r a,c.rows[p]?=some r->c.rows[p+1]?=some a->marked c (p+1)=false->
 (r.o.isPlain&&a.o.gn)=false/\(r.o.ky&&a.o.g7)=false/\(r.o.cY&&a.o.cY)=false/\(r.o.fB&&a.o.cY)=false/\(r.o.g7&&(a.o.isJ&&decide (r.o.bo=some (p+2))))=false/\
 (∀t r2,r.o.ky=true->a.o= .aM t->c.rows[t]?=some r2->r2.o.g7=false)/\(∀r2,c.rows[p+2]?=some r2->r.o.fB=true->a.o.d9=true->r2.o.gn=true->marked c (p+2)=true)
def Ks(o:O):c7 o.name [c_,cE,dP,lG,iv,fA,fP]=o.isPlain:=lV (λs=>c7 s [c_,cE,dP,lG,iv,fA,fP]) _ (by kernel_rfl) o
def Kt(o:O):c7 o.name [dQ,lH,gM,lI]=o.d9:=lV (λs=>c7 s [dQ,lH,gM,lI]) _ (by kernel_rfl) o
def C'(o:O):seq o.name e7=o.gn:=lV (λs=>seq s e7) _ (by kernel_rfl) o
def FK(o:O):seq o.name c_=o.ky:=lV (λs=>seq s c_) _ (by kernel_rfl) o
def Ku(o:O):seq o.name fA=o.fB:=lV (λs=>seq s fA) _ (by kernel_rfl) o
def FL(o:O):seq o.name el=o.cY:=lV (λs=>seq s el) _ (by kernel_rfl) o
def wV(W:List O):MC:=.list ((W.map O.name).map .str)
def WH(W:List O)(J:MH):Prop:=J[1]?=some (wV W)
def AH(H:WH W J)(a:Nat.ble l.length 100=true)(e:strsOf l=some ks)(E:c7 k ks=b)(h:∀bH,WH W bH->Q b bH):newList l J λv J=>compare .In (.str k) v J Q:=
 aY (bt (nl a) (nl rfl)) (Ke ey e (E▸h _ (dF _ H)))
def w_get{k:Nat}(H:WH W J)(a:W[k]?=some o)(h:Q (.str o.name) J):f6 (.lst 1) (.int k) J Q:=
 aT H rfl (rX hW (rX hW (rX a rfl))) h
def Dc{o:MV}(e:o=.aQ l\/∃a,o=.lst a/\J[a]?=some (.list l))(H:∀b:Nat->MH->Prop,b m J->cutAt l.length 0 lo J b)(c:∀b:Nat->MH->Prop,b n J->cutAt l.length l.length hi J b)(E:(l.take n).drop m=l')(d:l'.length<=cL)(h:Q (.lst J.length) (J++[.list l'])):slice o lo hi J Q:=by
 subst E;obtain rfl|⟨a,rfl,e⟩:=e
 ·with_unfolding_all (show cutAt l.length 0 lo J _)
  exact H _ (c _ (aY d h))
 ·with_unfolding_all refine⟨l,e,?_⟩
  exact H _ (c _ (aY d h))
def y3(H:i=.int k):∀Q:Nat->MH->Prop,Q (min k n) J->cutAt n dflt i J Q:=λQ h=>by subst H;exact⟨k,rfl,h⟩
def Kv:∀Q:Nat->MH->Prop,Q dflt J->cutAt n dflt .none J Q:=λQ h=>h
def Kw{ns:List Nat}{Q:Bool->MH->Prop}(h:Q (ns.any (· ==w)) J):contains (.int w) (.aQ (ns.map er)) J Q:=by
 have:dM (bV J 8) (ns.map er)=some (ns.map λn:Nat=>PyData.int n):=rT (g:=er) (h:=λn:Nat=>PyData.int n) (λx=>rfl) ns
 with_unfolding_all refine .inr ⟨.int w,rfl,_,this,?_⟩
 have e:kx (.int w) (ns.map λn:Nat=>PyData.int n)=ns.any (· ==w):=by
  unfold kx;refine rX any_map ?_
  congr 1;funext x
  exact yR rfl
 exact rX e h
def q_(c:PC)(p:Nat)(m:List Nat)(z:Option MV×Option MV):Loc:=[some c.mv,some (.int p),some (.aQ (m.map er)),some (.lst 1),z.1,z.2]
section
variable{r0 r1:R}
def mi(h:J[a]?=some (.list [.str x,.str y]))(b:PyData.strOk x=true)(c:PyData.strOk y=true):bV J (n+2) (.lst a)=some (.list [.str x,.str y]):=
 rY h λs H=>(hH H).elim (λe=>e▸b) λH=>d5 H▸c
def SM(H:WH (r0.o::r1.o::t) J)(h:∀bH a,WH (r0.o::r1.o::t) bH->bH[a]?=some (.list [.str r0.o.name,.str r1.o.name])->Q (.lst a) bH):slice (.lst 1) .none (.int 2) J Q:=
 Dc (.inr ⟨1,rfl,H⟩) Kv (y3 rfl) (rX (show min 2 (((r0.o::r1.o::t).map O.name).map MV.str).length=2 by simp) rfl) (nl rfl) (h _ _ (dF _ H) ey)
def w1(H:∀q,ms.any (· ==q)=marked c q)(a:WH (r0.o::r1.o::t) J)(i:t.length<=1)(j:∀o,t=[o]->r0.o.fB=true->r1.o.d9=true->o.gn=true->marked c (p+2)=true)(h:∀J,K (.ret (.bool false)) (q_ c p ms z) J):Cw (run d) (q_ c p ms z) J K:=by
 refine w_get a rfl (cB (λQ=>?_) λQ=>rX Q (h _));rw[Ku]at Q;refine w_get a rfl (AH a rfl rfl (Kt _) λcx k=>cB (λq1=>?_) λq1=>rX q1 (h _));refine Dc (.inr ⟨1,rfl,k⟩) (y3 rfl) Kv (l':=(t.map O.name).map .str) (rX take_length (rX (show min 2 (((r0.o::r1.o::t).map O.name).map MV.str).length=2 by simp) rfl)) (by simp;exact dR (av i)) (aY (nl rfl) ?_);have f:=rY (n:=6) (dF (.list [.str e7]) (ey (J:=cx) (c:=.list ((t.map O.name).map .str)))) λs b=>by obtain⟨o,_,rfl⟩:=i4 b;exact n_ o
 have g:=rY (n:=6) (l:=[e7]) (ey (J:=cx++[.list ((t.map O.name).map .str)])) λs b=>by refine rX (d5 b) ?_;kernel_rfl
 refine xK f g rfl ?_;cases t with
 |nil=>exact h _
 |cons o t=>
  cases t with
  |cons _ _=>exact ak i (by simp)
  |nil=>
   have e:PyData.eqv (.list (([o].map O.name).map .str)) (.list ([e7].map .str))=o.gn:=by
    show PyData.eqv (.list [.str o.name]) (.list [.str e7])=_;rw[oa,e_,q9,C',show PyData.eqvAll [] []=true from rfl,Bool.and_true]
   refine rX e ?_;refine cB (λq2=>Kw ?_) λq2=>by exact rX q2 (h _)
   rw[H];refine rX (j o rfl Q q1 q2) ?_;exact h _
def w2(a:g=.none\/∃r2:R,g=r2.mv/\r2.o.g7=false)(H:WH W J)(h:∀J,WH W J->Cw (run d) (q_ c p ms (y,some g)) J K):Cy (run d) (q_ c p ms (y,some g)) J K:=by
 obtain rfl|⟨r2,rfl,e⟩:=a
 ·exact h _ H
 ·exact AH H rfl rfl (FH _) λcx b=>iF e (h _ b)
def w3(i:c.rows[p]?=some r0)(H:c.rows[p+1]?=some r1)(j:Ok c)(k:WH (r0.o::r1.o::t) J)(l:∀t r2,r0.o.ky=true->r1.o= .aM t->c.rows[t]?=some r2->r2.o.g7=false)(h:∀J g,WH (r0.o::r1.o::t) J->(g=.none\/∃r2:R,g=r2.mv/\r2.o.g7=false)->Cy (run d) (q_ c p ms (y,some g)) J K):Cz (run d) (q_ c p ms (y,none)) J K:=by
 refine SM k λcx a f m=>aY (nl rfl)<|xK (mi (dF _ m) (n_ _) (n_ _)) (mi ey (by kernel_rfl) (by kernel_rfl)) (Kr _ _ _ _) ?_;rw[FK,kF];refine cB (λq=>?_) λq=>h _ _ (dF _ f) (.inl rfl);obtain⟨u,n⟩:=Option.isSome_iff_exists.1 ((nZ r1.o).trans (aA q).2);have e:=ip n;have b:=j.t r1 (gh H) u (rX e rfl);exact cV rfl (gR H)<|cV (rX e rfl) (gR (dv b))<|h _ _ (dF _ f) (.inr ⟨_,rfl,l u _ (aA q).1 e (dv b)⟩)
def w4(f:c.rows[p]?=some r0)(i:WH (r0.o::r1.o::t) J)(g:(r0.o.g7&&(r1.o.isJ&&decide (r0.o.bo=some (p+2))))=false)(h:∀J,WH (r0.o::r1.o::t) J->Cz (run d) (q_ c p ms (y,none)) J K):CA (run d) (q_ c p ms (y,none)) J K:=by
 refine w_get i rfl (AH i rfl rfl (FH _) λcx H=>cB (λQ=>?_) λQ=>h _ H);refine w_get H rfl (cB (λq1=>?_) λq1=>h _ H);rw[kF]at q1;rw[q1]at g;obtain⟨⟨b,v⟩,j⟩:=Option.isSome_iff_exists.1 ((nY r0.o).trans Q);rw[(gz j)]at g;refine cV rfl (gR f) ?_;show yv _ r0.o.a (.int ((p:Int)+2)) _ _;refine rX (gz j) ?_;refine iF ?_ (h _ H);exact beq_eq_false_iff_ne.2 λe=>tf (ag (bA (by have:=Int.ofNat_inj.1 (e.trans (Int.natCast_add p 2).symm);exact rX this rfl)) g)
def in2{b1 b2 o:Nat}{Q:Bool->MH->Prop}(H:J[o]?=some (.list [.lst b1,.lst b2]))(b:bV J 8 (.lst a)=some (.list [.str x,.str y]))(c:bV J 8 (.lst b1)=some (.list [.str e,.str f]))(d:bV J 8 (.lst b2)=some (.list [.str g,.str k]))(h:Q ((seq e x&&seq f y)||((seq g x&&seq k y)||false)) J):contains (.lst a) (.lst o) J Q:=by
 have E:kx (.list [.str x,.str y]) [.list [.str e,.str f],.list [.str g,.str k]]=((seq e x&&seq f y)||((seq g x&&seq k y)||false)):=by
  show(PyData.eqv _ _||(PyData.eqv _ _||false))=_;rw[Kr,Kr]
 rw[<-E]at h
 with_unfolding_all exact⟨_,H,.inr ⟨_,b,_,d_ c (d_ d rfl),h⟩⟩
def rZ(a b:Str):seq a b=seq b a:=by rw[<-lj,<-lj,Bool.eq_iff_iff,beq_iff_eq,beq_iff_eq];exact eq_comm
def w5k{Q:Bool->MH->Prop}(h:WH (r0.o::r1.o::t) J)(H:(r0.o.cY&&r1.o.cY)=false)(b:(r0.o.fB&&r1.o.cY)=false)(c:∀bH,WH (r0.o::r1.o::t) bH->Q false bH):slice (.lst 1) .none (.int 2) J λv J=>newList [.str el,.str el] J λb1 J=>newList [.str fA,.str el] J λb2 J=>newList [b1,b2] J λo J=>contains v o J Q:=
 SM h λcx a d e=>aY (nl rfl)<|aY (nl rfl)<|aY (nl rfl)<|in2 ey (mi (dF _ (dF _ (dF _ e))) (n_ _) (n_ _)) (mi (dF _ (dF _ ey)) (by kernel_rfl) (by kernel_rfl)) (mi (dF _ ey) (by kernel_rfl) (by kernel_rfl)) (by
   refine rX (rZ el r0.o.name) ?_;refine rX (rZ el r1.o.name) ?_;rw[rZ fA,FL,FL,Ku];refine rX H ?_;refine rX b ?_;exact c _ (dF _ (dF _ (dF _ d))))
def w5(H:WH (r0.o::r1.o::t) J)(b:(r0.o.ky&&r1.o.g7)=false)(e:(r0.o.cY&&r1.o.cY)=false)(f:(r0.o.fB&&r1.o.cY)=false)(h:∀J,WH (r0.o::r1.o::t) J->CA (run d) (q_ c p ms (y,none)) J K):CB (run d) (q_ c p ms (y,none)) J K:=by
 refine w_get H rfl (cB (λQ=>?_) λQ=>w5k H e f λbH a=>h _ a);rw[FK]at Q;rw[Q]at b;exact w_get H rfl (AH H rfl rfl ((FH _).trans b) λcx g=>w5k g e f λbH a=>h _ a)
def w6(a:WH (r0.o::r1.o::t) J)(b:(r0.o.isPlain&&r1.o.gn)=false)(h:∀J,WH (r0.o::r1.o::t) J->CB (run d) (q_ c p ms (y,none)) J K):Jf (run d) (q_ c p ms (y,none)) J K:=by
 refine w_get a rfl (AH a rfl rfl (Ks _) λcx H=>cB (λQ=>?_) λQ=>h _ H);rw[Q]at b;exact w_get H rfl (iF ((C' _).trans b) (h _ H))
end
section
variable{ms:List Nat}
def w7(m:Ok c)(H:c.rows[p]?=some r0)(i:c.rows[p+1]?=some r1)(n:t.length<=1)(r:∀o,t=[o]->∃r2,c.rows[p+2]?=some r2/\r2.o=o)(l:∀q,ms.any (· ==q)=marked c q)(j:uB c p)(k:WH (r0.o::r1.o::t) J)(h:∀z J,K (.ret (.bool false)) (q_ c p ms z) J):Jg (run d) (q_ c p ms (none,none)) J K:=by
 refine ed k (Kw ?_);rw[l];refine cB (λq=>h _ _) λq=>?_;have N:=(j r0 r1 H i q).2.2.2.2.2.2
 exact w6 k ((j r0 r1 H i q).1) λJ k=>w5 k ((j r0 r1 H i q).2.1) ((j r0 r1 H i q).2.2.1) ((j r0 r1 H i q).2.2.2.1) λJ k=>w4 H k ((j r0 r1 H i q).2.2.2.2.1) λJ k=>w3 H i m k ((j r0 r1 H i q).2.2.2.2.2.1) λJ g k s=>w2 s k λJ k=>w1 l k n (λo e a b f=>by
  obtain⟨r2,E,u⟩:=r o e;exact N r2 E a b (u▸f)) λJ=>h _ J
def s72(n:Ok c)(H:c.rows[p]?=some s)(b:∀q,ms.any (· ==q)=marked c q)(g:uB c p)(h:Q (.bool false) J):run (d+1) 72 [c.mv,.int p,.aQ (ms.map er)] J Q:=by
 refine Jz (af:=[some c.mv,some (.int p),some (.aQ (ms.map er)),none,none,none]) rfl rfl ⟨dB c,ai,eU (f:=er) (λZ=>ai) _,ai⟩ ?_;refine Dc (.inl rfl) (y3 rfl) (y3 rfl) (l':=((c.rows.drop p).take 3).map R.mv) ?_ ?_ ?_
 ·refine rX (map_take).symm (rX (map_drop).symm (rX cX (rX (Nat.min_eq_left (a_ ((cu H)))) (rX (take_eq_take_min).symm (rX drop_take ?_)))));exact rX (show p+3-p=3 by exact Nat.add_sub_self_left p 3) rfl
 ·exact rX cX (rX length_take (dR (by lia)))
 refine f' rfl (comp_map (l:=(c.rows.drop p).take 3) (λr=>.str r.o.name) (.live rfl) (λr y S u=>u) ?_);refine aY (rX cX (rX length_take (dR (by lia)))) ?_;cases e:c.rows.drop p with
 |nil=>exact ak (drop_eq_nil_iff.1 e) (Nat.not_le_of_lt ((cu H)))
 |cons x t=>
  have j:∀i,(c.rows.drop p)[i]?=c.rows[p+i]?:=λi=>List.getElem?_drop;have a:=j 0;have a:=e▸a;rw[Nat.add_zero,H]at a;cases a;cases t with
  |nil=>exact ed rfl (d0 h ai)
  |cons w t=>
   have v:=j 1;refine w7 (t:=(t.take 1).map R.o) n H (e▸v).symm (by simp;exact Nat.min_le_left 1 t.length) (λo k=>?_) b g (by show some (MC.list ((List.take 3 (s::w::t)).map λr=>MV.str r.o.name))=some (wV _);unfold wV;simp;rfl) λz cx=>d0 h ai;cases t with
   |nil=>exact ak k (by simp)
   |cons r2 t=>
    have m:=j 2;rw[e]at m;exact⟨r2,m.symm,(List.cons.inj k).1⟩
end
abbrev ix(c:PC):Prop:=e9 (dA 24 c) c=true/\(∀p,p<c.rows.length->Reach c p)/\(∀p r t,c.rows[p]?=some r->r.o.bo=some t->t≠p+1/\∀r2,c.rows[t]?=some r2->r2.o.isJ=false/\(r.o.isJ=true->r2.o.g8=false))/\∀p,uB c p
def FN(c:PC):List Nat:=(c.rows.filterMap λr=>r.o.bo)++(c.ax.map λk=>k.target)++c.starts
def AI(c:PC)(q:Nat):(FN c).any (· ==q)=marked c q:=by
 refine rX any_append (rX any_append (rX any_map (rX any_filterMap ?_)))
 congr 2
 congr 1;funext r
 cases r.o.bo<;>simp
def SN(o:O):Str:=⟨(o.name.cps.toList.take 4).toArray⟩
def uC(o:O):seq (SN o) cv=o.hJ:=by cases o with|br b t=>cases b<;>kernel_rfl|_=>kernel_rfl
def Kx(o:O):Nat.ble o.name.length 100=true:=by cases o with|br b t=>cases b<;>kernel_rfl|_=>kernel_rfl
section
variable{p:Nat}
def Ky(h:Q (.str (SN o)) J):slice (.str o.name) .none (.int 4) J Q:=by
 with_unfolding_all refine⟨bt (nl (Kx o)) (nl rfl),4,rfl,?_⟩
 show Q (.str ⟨((o.name.cps.toList.take (min 4 o.name.cps.toList.length)).drop 0).toArray⟩) J;exact rX drop_zero (rX (take_eq_take_min).symm h)
def Kz(b:∀p,p<n->∃d,bf p=some d)(c:∀p,p<n->f p=true){Q:Bool->MH->Prop}(h:Q false J):contains .none (.aQ (dmap n bf f)) J Q:=by
 have a:dM (bV J 8) (dmap n bf f)=some ((List.range n).map λp=>.int ((bf p).getD 0:Nat)):=by
  have e:dmap n bf f=(List.range n).map λp=>.int ((bf p).getD 0:Nat):=map_congr_left λp H=>by
   have H:=mem_range.1 H;obtain⟨d,a⟩:=b p H;unfold dp;exact rX (c p H) (rX a rfl)
  exact rX e (rT (f:=bV J 8) (λZ=>rfl) _)
 have e:kx .none ((List.range n).map λp=>.int ((bf p).getD 0:Nat))=false:=by
  unfold kx;refine rX any_map ?_;exact any_eq_false.2 λp Z=>by show¬PyData.eqv (.int ((bf p).getD 0:Nat)) .none=true;exact bP
 rw[<-e]at h
 with_unfolding_all exact .inr ⟨.none,rfl,_,a,h⟩
def Hb(c:PC)(b:Bool):MH:=[.list ((c.rows.filterMap λr=>r.o.bo).map er),.list (c.ax.map λk=>er k.target),.list (((c.rows.filterMap λr=>r.o.bo).map er)++c.ax.map λk=>er k.target),match b with|true=>.jq ((FN c).map er)|false=>.list ((FN c).map er)]
def XQ(c:PC)(x:Option MV×Option MV×Option MV):Loc:=[some c.mv,some (.lst 0),x.1,some (.lst 3),x.2.1,x.2.2]
def XR(e:Ok c)(H:c.rows[p]?=some r)(t:ix c)(h:K .next (XQ c (some r.mv,u,some (.int p))) (Hb c true)):Jh (run (d+1)) (XQ c (some r.mv,u,some (.int p))) (Hb c b) K:=by
 have k:∀{Q:QV},Q (.bool false) (Hb c true)->call (run (d+1)) 72 [c.mv,.int p,.lst 3] (Hb c b) Q:=λ{Q} l=>by
  cases b
  ·exact cz rfl rfl (s72 e H (AI c) (t.2.2.2 p) l)
  ·exact cz rfl rfl (s72 e H (AI c) (t.2.2.2 p) l)
 refine Ky (cB (λq=>?_) λq=>k ?_)
 ·rw[uC]at q;obtain⟨m,f⟩|⟨j,m,f,i⟩:=r.o.js
  ·exact tf (ag q m)
  have s:=e.t r (gh H) j f;have G:=dv s;obtain⟨n,E⟩:=t.2.2.1 p r j H f;show yv _ r.o.a (.int ((p:Int)+1)) _ _;refine rX i ?_;refine iF ((yR rfl).trans (beq_eq_false_iff_ne.2 n)) (cV i (gR G) (iF ((kF _).trans (E _ G).1) (k (cB (λq=>?_) λq=>h))));rw[kF]at q;exact cV i (gR G) (iF ((vp _).trans ((E _ G).2 q)) h)
 ·rw[uC]at q;refine iF ((kF r.o).trans ?_) h;obtain⟨o,g⟩:=r;cases o<;>first|rfl|exact tf q
end
def PG(H:J[a]?=some (.list l))(b:(l++m).length<=cL)(h:Q (.lst J.length) (J++[.list (l++m)])):binop .add (.lst a) (.aQ m) J Q:=f' H (aY b h)
def PI(r:R)(h:r.o.hJ=true):r.o.bo.map er=some r.o.a:=by
 obtain⟨H,_⟩|⟨j,_,b,c⟩:=r.o.js
 ·exact tf (ag h H)
 ·exact rX b (rX c rfl)
def PJ(r:R)(h:r.o.hJ=false):r.o.bo.map er=none:=by
 obtain⟨_,H⟩|⟨j,a,_,_⟩:=r.o.js
 ·exact rX H rfl
 ·exact ft (ag h a)
def zip_get{l:List α}{p:List (α×Nat)}(e:l.zipIdx=p++(r,i)::t):l[i]?=some r:=by
 have h:=congrArg (·[p.length]?) e;simp[List.getElem?_zipIdx]at h;obtain⟨a,H,rfl,rfl⟩:=h;exact H
def s73(l:Kept G)(g:G c)(so:o9 c)(cd:Cons c bf)(t:ix c)(h:Q (.bool true) J):call (run (d+8)) 73 [c.mv] J Q:=by
 have j:=l.1 c g;have H:=j.kn;have a:(c.rows.filterMap λr=>r.o.bo).length<=300:=bt (length_filterMap_le _ _) j.n;refine fr (af:=[some c.mv,none,none,none,none,none]) rfl rfl ⟨dB c,ai⟩ ?_;refine s53 l g<|o7 71 (.inr rfl) (l.1 _ (l.tidy 24 g)).n<|o7 71 (.inr rfl) j.n<|C4<|iF (nT t.1)<|s35 j so cd<|Kz (λp m=>cd.some (t.2.1 p m)) (λp m=>(g9 c p).2 (t.2.1 p m)) ?_;refine oY (λr=>r.o.bo.map er) (.vals _) (λr v S b=>Ky (cB (λq=>?_) λq=>?_)) ?_
 ·rw[PI r (ag (uC _) q)]at b;exact b
 ·rw[PJ r (ag (uC _) q)]at b;exact b
 refine rX (map_filterMap).symm ?_;refine aY (ml (bt a (nl rfl))) ?_;refine comp_map (f:=Ct.mv) (λk=>er k.target) (.vals _) (λk w S b=>b) (aY (ml (bt H (nl rfl))) ?_);refine yY rfl rfl (rX c9 (rX cX (rX cX (dR (ln2 0x12c251106426113e8265010 rfl H a)))))<|PG rfl (rX c9 (rX c9 (rX cX (rX cX (rX cX (dR (bX 0x12c2511a171106426113e827650010 rfl H j.sn a))))))) ?_;refine d7 (λZ x=>XQ c x.2) (λZ x=>Hb c x.1) (false,none,none,none) (λZ Z=>.enum R.mv) (λz y t' x P e s=>?_) rfl ?_ λx=>d0 h ai
 ·obtain⟨r,i⟩:=y
  have u:c.rows[i]?=some r:=by
   have:=zip_get e;exact this
  exact fQ rfl (XR j u t (s (true,some r.mv,x.2.2.1,some (.int i))))
 ·unfold Hb FN;simp;rfl
def w_(l:List (Str×Str)):Prop:=∀x∈l,PyData.strOk x.1=true/\PyData.strOk x.2=true
def xP(r:Res):Prop:=w_ r.1/\PyData.strOk r.2.1=true/\PyData.strOk r.2.2=true
def uD(v:Vl):PyData.strOk v.rep=true:=by cases v<;>kernel_rfl
def aaA(g:Bool):PyData.strOk (la g)=true:=by cases g<;>kernel_rfl
def aaB(g:Bool):PyData.strOk (vk g)=true:=by cases g<;>kernel_rfl
def w_.snoc(h:w_ l)(b:PyData.strOk a=true)(c:PyData.strOk e=true):w_ (l++[(a,e)]):=λx H=>(iZ H).elim (h x) λH=>rX (d5 H) (⟨b,c⟩)
def Hc{st:St}(h:plain o st=some ha)(H:w_ st.ej):w_ ha.ej:=by
 obtain⟨s,l,y,n⟩:=st;cases o with
 |push v=>obtain rfl:=aj h;exact H
 |self=>obtain rfl:=aj h;exact H
 |aL k=>obtain⟨x,_,rfl⟩:=Option.map_eq_some_iff.1 h;exact H
 |iQ k=>obtain rfl:=aj h;exact H
 |a8 k=>cases s with
  |nil=>exact nn h
  |cons x s=>
   have h:(if k<l.length then some (⟨s,l.set k x,y,n⟩:St)else none)=_:=h;by_cases e:k<l.length
   ·rw[aO e]at h;obtain rfl:=aj h;exact H
   ·rw[bc e]at h;exact nn h
 |gN k=>cases s with
  |nil=>exact nn h
  |cons x s=>cases x with
   |v x=>obtain rfl:=aj h;exact H.snoc (aaA k) (uD x)
   |way x=>exact nn h
 |pop=>cases s with
  |nil=>exact nn h
  |cons x s=>obtain rfl:=aj h;exact H
 |dup=>cases s with
  |nil=>exact nn h
  |cons x s=>obtain rfl:=aj h;exact H
 |swap=>cases s with
  |nil=>exact nn h
  |cons x s=>cases s with
   |nil=>exact nn h
   |cons z s=>obtain rfl:=aj h;exact H
 |eO=>cases s with
  |nil=>exact nn h
  |cons x s=>cases x with
   |way x=>obtain rfl:=aj h;exact H
   |v x=>exact nn h
 |_=>exact nn h
def Act.AD(a:Act):Prop:=match a with
 | .go _ st=>w_ st.ej
 | .raise _ st=>w_ st.ej
 | .stop r=>xP r
def PK{st:St}(h:act o f st=some a)(H:w_ st.ej):a.AD:=by
 cases b:o.q7 with
 |true=>
  rw[uA b]at h;obtain⟨S,c,rfl⟩:=Option.map_eq_some_iff.1 h;exact Hc c H
 |false=>
  obtain⟨s,l,y,n⟩:=st;cases o with
  |aM t=>obtain rfl:=aj h;exact H
  |again=>cases s with
   |nil=>exact nn h
   |cons x s=>cases x with
    |v x=>exact nn h
    |way x=>obtain rfl:=aj h;exact H
  |leave=>cases s with
   |nil=>exact nn h
   |cons x s=>cases x with
    |way x=>exact nn h
    |v x=>obtain rfl:=aj h;exact⟨H,by kernel_rfl,uD x⟩
  |br q t=>cases s with
   |nil=>exact nn h
   |cons x s=>cases x with
    |way x=>exact nn h
    |v x=>obtain rfl:=aj h;exact H
  |send q=>cases s with
   |nil=>exact nn h
   |cons x s=>cases x with
    |way x=>exact nn h
    |v x=>cases s with
     |nil=>exact nn h
     |cons w s=>cases q<;>obtain rfl:=aj h<;>exact H.snoc (aaB _) (uD x)
  |_=>exact tf b
theorem vG:∀(n p:Nat) (st:St) {r},exec c n p st=some r->w_ st.ej->xP r
 |0=>λZ Z{Z} h Z=>nn h
 |n+1=>λp st{r} h f=>by
  dsimp only[exec]at h;cases d:c.rows[p]? with
  |none=>have h:=d▸h;exact nn h
  |some o=>
   rw[d]at h;dsimp only at h;cases b:act o.o (p+1) st with
   |none=>rw[b]at h;exact nn h
   |some a=>
    rw[b]at h;have H:=PK b f;cases a with
    |stop r=>obtain rfl:=aj h;exact H
    |go q s=>exact vG n q s h H
    |raise x s=>
     dsimp only at h;cases e:c.ax.find? (·.on p)with
     |none=>rw[e]at h;obtain rfl:=aj h;exact⟨H,by kernel_rfl,uD x⟩
     |some k=>rw[e]at h;exact vG n _ _ h H
noncomputable def KA(x:Str×Str):PyData:=.tuple [.str x.1,.str x.2]
def AJ(r:Res):PyData:=.list [.list (r.1.map KA),.str r.2.1,.str r.2.2]
def pd(a:Str):PyData.eqv (.str a) (.str a)=true:=by rw[q9,pa]
def Hd(r:Res):PyData.eqv (AJ r) (AJ r)=true:=by
 unfold AJ;rw[oa,e_,e_,e_,pd,pd,oa,kI λx h=>?_]
 ·rfl
 ·obtain⟨y,_,rfl⟩:=i4 h;show PyData.eqvAll [.str y.1,.str y.2] [.str y.1,.str y.2]=true;refine rX e_ ?_;refine rX e_ ?_;rw[pd,pd];rfl
def He(J:MH)(n:Nat)(x:Str×Str)(h:PyData.strOk x.1=true/\PyData.strOk x.2=true):bV J (n+2) (n3 x)=some (KA x):=
 congrArg (λx:Option (List PyData)=>x.map PyData.tuple) (d_ (n9 J n h.1) (d_ (n9 J n h.2) rfl))
def xQ:∀{l:List α},(∀x∈l,f (g x)=some (h x))->dM f (l.map g)=some (l.map h):=by
 intro m;induction m with
 |nil=>exact λZ=>rfl
 |cons x l i=>exact λe=>d_ (e x eE) (i λy H=>e y (fg H))
def Dd(h:dM (bV J n) l=some m):bV J (n+1) (.aQ l)=some (.list m):=congrArg (λx:Option (List PyData)=>x.map PyData.list) h
def KG(J:MH)(n:Nat)(r:Res)(h:xP r):bV J (n+4) (iU r)=some (AJ r):=
 Dd (d_ (Dd (xQ λx H=>He J n x (h.1 x H))) (d_ (n9 J (n+2) h.2.1) (d_ (n9 J (n+2) h.2.2) rfl)))
def xR(J:MH)(rs:List Res)(h:∀r∈rs,xP r):bV J 8 (.aQ (rs.map iU))=some (.list (rs.map AJ)):=
 Dd (xQ λx H=>KG J 3 x (h x H))
def KI{rs:List Res}(h:∀r∈rs,xP r)(H:Q true J):yv g (.aQ (rs.map iU)) (.aQ (rs.map iU)) J Q:=
 xK (xR J rs h) (xR J rs h) (by rw[oa];exact kI λx a=>by obtain⟨y,_,rfl⟩:=i4 a;exact Hd y) H
def Good(C:PC)(rs:List Res)(c:PC):Prop:=o9 c/\(∃d,Cons c d)/\c.ns<=200/\c.starts.map (λs=>exec c 300 s (ql c.ns))=rs.map some/\c.rows.length<=C.rows.length/\0<c.rows.length
inductive Plain(c:PC):Prop|mk(u0:∃(G:PC->Prop) (rs:List Res),Kept G/\G c/\∀c',G c'->Good c rs c')(u1:ix (dA 24 c)):Plain c
def vH{rs:List Res}(h:c.starts.map (λs=>exec c 300 s (ql c.ns))=rs.map some):(∀s∈c.starts,∃r,exec c 300 s (ql c.ns)=some r)/\c.starts.map (vF c)=rs/\∀r∈rs,xP r:=by
 refine⟨λs H=>?_,?_,λr a=>?_⟩
 ·have:exec c 300 s (ql c.ns)∈rs.map some:=h▸mem_map.2 ⟨s,H,rfl⟩;obtain⟨r,_,e⟩:=i4 this;exact⟨r,e.symm⟩
 ·have:=congrArg (λl:List (Option Res)=>l.map λx=>x.getD ([],k_,k_)) h;rw[map_map,map_map]at this;rw[show(λx:Option Res=>x.getD ([],k_,k_))∘some=id from rfl,map_id]at this;exact this
 ·have:some r∈c.starts.map (λs=>exec c 300 s (ql c.ns)):=h▸mem_map.2 ⟨r,a,rfl⟩;obtain⟨s,_,e⟩:=i4 this;exact vG _ _ _ e λx b=>ak b d6
section
variable{rs:List Res}
def SO(o:Ok c)(a:c.ns<=200)(H:c.starts.map (λs=>exec c 300 s (ql c.ns))=rs.map some)(h:Q (.aQ (rs.map iU)) J):call (run (d+4)) 69 [c.mv] J Q:=by
 refine s69 o a ((vH H).1) ?_;have h:=map_map▸((vH H).2.1)▸h;exact h
def XS{Q:Bool->MH->Prop}(e:J[a]?=some (.list []))(H:l≠[])(h:Q false J):wX true (.aQ l) (.lst a) J Q:=by
 with_unfolding_all exact .inl ⟨rfl,ai,ai,[],e,by simpa using H,h⟩
structure PM where
 k:Option MV
 box:Option MV
 code:Option MV
 KJ:Option MV
 before:Option MV
 qm:Option MV
 names:Option MV
 twin:Option MV
noncomputable def lD(sc:List MV)(z:PM):Loc:=[some (.aQ sc),z.k,z.box,z.code,z.KJ,z.before,z.qm,none,none,z.names,none,z.twin]
def PN{sc:List MV}{z:PM}(f:Kept G)(g:G c')(j:Good c rs c')(h:K .next (lD sc ⟨z.k,z.box,z.code,some (.aQ (rs.map iU)),some (.aQ (c.rows.map nA)),z.qm,z.names,some c'.mv⟩) (J++[.list []])):
 Ji (run (d+6)) (lD sc ⟨z.k,z.box,z.code,some (.aQ (rs.map iU)),some (.aQ (c.rows.map nA)),z.qm,z.names,some c'.mv⟩) J K:=by
 obtain⟨so,⟨D,cd⟩,b,H,i,a⟩:=j;refine SO (f.1 c' g) b H<|KI (vH H).2.2<|iF (decide_eq_false (by refine rX cX (rX cX ?_);lia))<|s35 (f.1 c' g) so cd<|aY (nl rfl)<|XS ey (λe=>?_) h;have:=congrArg List.length e;rw[rV]at this;exact ak this (Nat.pos_iff_ne_zero.1 a)
end
def set_same{J:MH}(h:J[i]?=some c):J.set i c=J:=by
 obtain⟨a,H⟩:=List.getElem?_eq_some_iff.1 h;refine rX H.symm ?_;rw[set_getElem_self]
def e74(C:au):PE:=a7 (a7 (eC iP) (aq C 57 [eV 2,df .len [eC iP]])) (aB 0)
section
variable{sc:List MV}{z:PM}{T:List PC}
def aaC(H:∀x:MV,gi (af.set 10 (some x)) 2=some (some (.lst i))):∀k j (b:Bk) (J:MH) (Q:List MV->MH->Prop),j+k=m->b.ok k->J[i]?=some b.c->(∀(l:List Ps) (B:Bk),l.length=k->B.s=b.s->Q (l.map λp=>.str p.name) (J.set i B.c))->jC (.plain (.vals (fE m))) (.one 10) (Cj []) (e74 (run (d+1))) af k j J Q:=by
 intro y;induction y with
 |zero=>
  intro _ b J Q _ _ a h;have:=h [] b rfl rfl;rw[set_same a]at this;exact this
 |succ k C=>
  intro j b J Q e A a h;refine fQ (by rw[fE];refine rX hW ?_;refine rX (List.getElem?_range (iC (ar _ _) (bx e))) ?_;rfl) ?_;show(match gi (af.set 10 (some (.int j))) 2 with|some o=>(match o with|some v=>_|none=>False)|none=>False);rw[H];refine SE 8 a (nl rfl) (nl rfl) A λw B n f r=>?_;obtain⟨p,u⟩:∃p,jG[w]?=some p:=⟨_,dv n⟩;refine cV (l:=jG.map Ps.mv) rfl (rX hW (rX u rfl))<|lL rfl rfl<|C (j+1) B _ _ (bX 0x711605013761150012 rfl e) f (n8 _ a) λl b2 t g=>?_;rw[set_set];exact h (p::l) b2 (congrArg (·+1) t) (g.trans r)
def r2(H:Kept G)(g:G c)(h:∀C,G C->Good c rs C)(b:ix (dA 24 c))(e:J[a]?=some (.list ((T++[dA 24 c]).map PC.mv)))(f:∀J z,P (lD sc z) J):Jj (run (d+12)) (lD sc ⟨z.k,z.box,some c.mv,z.KJ,some (.aQ (c.rows.map nA)),some (.lst a),z.names,z.twin⟩) J (kFor K P):=by
 obtain⟨so,⟨D,cd⟩,_⟩:=h _ (H.tidy 24 g);exact vt e (rX fD rfl)<|s73 H (H.tidy 24 g) so cd b<|o7 71 (.inr rfl) (H.1 c g).n<|C4<|iF (nT (jg c))<|f _ ⟨_,_,_,_,_,_,_,_⟩
def r3(e:Kept G)(g:G c)(h:∀C,G C->Good c rs C)(n:ix (dA 24 c))(i:∀C∈T++[dA 24 c],G C)(H:J[a]?=some (.list ((T++[dA 24 c]).map PC.mv)))(o:∀J z,P (lD sc z) J):Jk (run (d+12)) (lD sc ⟨z.k,z.box,some c.mv,some (.aQ (rs.map iU)),some (.aQ (c.rows.map nA)),some (.lst a),z.names,z.twin⟩) J (kFor K P):=by
 have m:∀g:MH,(J++g)[a]?=some (.list ((T++[dA 24 c]).map PC.mv)):=λg=>by exact rX (List.getElem?_append_left (cu H)) H
 refine f' H ?_;refine vz (f:=PC.mv) (l:=T++[dA 24 c]) (λx:MH×Option MV=>lD sc ⟨z.k,z.box,some c.mv,some (.aQ (rs.map iU)),some (.aQ (c.rows.map nA)),some (.lst a),z.names,x.2⟩) (λx=>J++x.1) (λZ Z=>True) ([],z.twin) (λx=>?_) (λk C x p j Z b=>?_) rfl (by rw[append_nil]) ai λx Z=>r2 (z:=⟨z.k,z.box,none,some (.aQ (rs.map iU)),none,none,z.names,x.2⟩) e g h n (m _) o
 ·have:=It.live (m x.1);exact this
 ·have:=b (x.1++[.list []],some C.mv) ai;rw[<-append_assoc]at this;exact PN (z:=⟨z.k,z.box,some c.mv,none,none,some (.lst a),z.names,none⟩) e (i C j) (h C (i C j)) this
def XT(h:J[n]?=some (.list l)):nD J (.lst n)=.aQ l:=by
 show(match J[n]? with|some (.list l)=>MV.aQ l|some (.jq l)=>.aQ l|_=>.lst n)=_;exact rX h rfl
def XU(h:J[n]?=some (.list l)):nk J (.lst n)=J.set n (.jq l):=by
 show(match J[n]? with|some (.list l)=>J.set n (.jq l)|_=>J)=_;exact rX h rfl
def r4{l:List Ps}(b:Kept G)(g:G c)(H:∀C,G C->Good c rs C)(j:ix (dA 24 c))(o:∀C∈T,G C)(e:T.length<=20)(r:J[a]?=some (.list (T.map PC.mv)))(i:J[n]?=some (.list (l.map λp=>.str p.name)))(f:n≠a)(s:∀J z,P (lD sc z) J):CC (run (d+12)) (lD sc ⟨z.k,z.box,some c.mv,some (.aQ (rs.map iU)),some (.aQ (c.rows.map nA)),some (.lst a),some (.lst n),z.twin⟩) J (kFor K P):=by
 refine cz (bH:=J.set n (.jq (l.map λp=>.str p.name))) ?_ ?_<|s55 b g<|s53 b g<|aY (nl rfl)<|yY (dF _ (gP _ f r)) ey (m:=[(runs l c).mv,(dA 24 c).mv]) (rX c9 (rX cX (dR (by show _+2<=_;exact bt (aS e _) (a5 _ _))))) ?_
 ·exact congrArg (λv=>[c.mv,v]) (XT i)
 ·exact XU i
 ·refine rX (show T.map PC.mv++[(runs l c).mv,(dA 24 c).mv]=((T++[runs l c])++[dA 24 c]).map PC.mv by simp) ?_;refine r3 (z:=⟨z.k,z.box,none,none,none,none,some (.lst n),z.twin⟩) b g H j (λC h=>?_) ey s;obtain h|h:=iZ h
  ·obtain h|h:=iZ h
   ·exact o C h
   ·exact rX (d5 h) (b.runs l g)
  ·exact rX (d5 h) (b.tidy 24 g)
end
section
variable{sc:List MV}{z:PM}{T:List PC}{b:Bk}
def r5k(n:Kept G)(g:G c)(h:∀C,G C->Good c rs C)(o:ix (dA 24 c))(p:∀C∈T,G C)(H:T.length<=20)(j:J[a]?=some (.list (T.map PC.mv)))(r:J[i]?=some b.c)(e:i≠a)(s:b.ok m)(t:m<=100)(u:∀J z,P (lD sc z) J):
 mJ (.plain (.vals (fE m))) (.one 10) (Cj []) (e74 (run (d+12))) (lD sc ⟨z.k,some (.lst i),some c.mv,some (.aQ (rs.map iU)),some (.aQ (c.rows.map nA)),some (.lst a),z.names,z.twin⟩) (Wk.len (.plain (.vals (fE m)))) 0 J (tj (kA 9 (lD sc ⟨z.k,some (.lst i),some c.mv,some (.aQ (rs.map iU)),some (.aQ (c.rows.map nA)),some (.lst a),z.names,z.twin⟩) (kS (CC (run (d+12))) (kFor K P)))):=by
 have v:Wk.len (.plain (.vals (fE m)))=m:=(cX ..).trans length_range;refine rX v ?_;unfold mJ;refine aaC (λZ=>rfl) m 0 b J _ (aD m) s r λl B f w=>aY (rX cX (rX f (dR (av t)))) ?_;exact r4 (z:=⟨z.k,some (.lst i),none,none,none,none,none,z.twin⟩) n g h o p H (dF _ (gP B.c e j)) ey (by have:=(cu j);exact rX length_set (Ne.symm (cm this))) u
def r5(n:Kept G)(g:G c)(h:∀C,G C->Good c rs C)(o:ix (dA 24 c))(p:∀C∈T,G C)(e:T.length<=20)(r:J[a]?=some (.list (T.map PC.mv)))(f:J[i]?=some b.c)(H:i≠a)(s:b.ok 20)(t:∀J z,P (lD sc z) J):Jl (run (d+12)) (lD sc ⟨z.k,some (.lst i),some c.mv,some (.aQ (rs.map iU)),some (.aQ (c.rows.map nA)),some (.lst a),z.names,z.twin⟩) J (kFor K P):=by
 have l:(cL:Int)=1000000:=rfl;refine aT f rfl rfl (cB (λq=>?_) λq=>?_)
 ·exact lX rfl (by refine rX l ?_;decide) (by refine rX l ?_;decide) (r5k n g h o p e r f H (s.le (nl rfl)) (nl rfl) t)
 ·exact SE 5 f (nl rfl) (nl rfl) (s.le (nl rfl:19+1<=20)) λj B u m v=>lX (Eq.symm (Nat.add_zero (Nat.add 1 j))) (rX l (Int.neg_ofNat_le_ofNat 1000000 (1+j))) (by refine rX l ?_;lia) (r5k n g h o p e (gP B.c H r) (n8 _ f) H (m.le (et 0x515120132511010 rfl u)) (et 0x515120642511010 rfl u) t)
def r6(e:Kept G)(g:G c)(H:∀C,G C->Good c rs C)(j:ix (dA 24 c))(a:J[i]?=some b.c)(m:b.ok 20)(n:∀J z,P (lD sc z) J):Jm (run (d+12)) (lD sc ⟨z.k,some (.lst i),some c.mv,some (.aQ (rs.map iU)),some (.aQ (c.rows.map nA)),z.qm,z.names,z.twin⟩) J (kFor K P):=by
 refine aT a rfl rfl (cB (λq=>?_) λq=>?_)
 ·exact aY (nl rfl) (r5 e g H j (λZ h=>ak h d6) (nl rfl) ey (dF _ a) (cm (cu a)) m n)
 ·refine comp_map (l:=jG) (f:=Ps.mv) (λp=>(p.run c).mv) (.vals _) (λp r S o=>fQ rfl (sP p (e.1 c g) o)) (aY (nl rfl) ?_);exact r5 (T:=jG.map λp=>p.run c) e g H j (λC h=>by obtain⟨p,_,rfl⟩:=i4 h;exact e.2 p c g) (nl rfl) ey (dF _ a) (cm (cu a)) m n
def r7(a:Plain c)(e:J[i]?=some b.c)(f:b.ok 20)(j:∀J z,P (lD sc z) J):Jn (run (d+12)) (lD sc ⟨z.k,some (.lst i),some c.mv,z.KJ,z.before,z.qm,z.names,z.twin⟩) J (kFor K P):=by
 obtain⟨⟨G,rs,H,g,h⟩,l⟩:=a;exact SO (H.1 c g) ((h c g).2.2.1) ((h c g).2.2.2.1)<|o7 71 (.inr rfl) (H.1 c g).n<|r6 H g h l e f j
def r9{s:List Int}{k:Nat}(H:∀c B,Gen c B->Plain c)(a:∀J z,P (lD (s.map .int) z) J):CD (run (d+12)) (lD (s.map .int) ⟨some (.int k),z.box,z.code,z.KJ,z.before,z.qm,z.names,z.twin⟩) J (kFor K P):=
 s56 λg b e=>s66 ey (e.le (nl rfl)) λc B i f h j=>r7 (z:=⟨some (.int k),none,none,z.KJ,z.before,z.qm,z.names,z.twin⟩) (H c B f) (n8 _ ey) h a
def KL{s:List Int}(a:∀c B,Gen c B->Plain c)(h:Q (.bool true) J):run (d+13) 74 [.aQ (s.map .int)] J Q:=by
 refine Jz rfl rfl ⟨eU (f:=MV.int) (λZ=>ai) _,ai⟩ ?_;have H:(cL:Int)=1000000:=rfl
 have k:∀n:Int,n=1\/n=2->uX .range [.int n] [] (kF2 (.one 1) (CD (run (d+12))) (lD (s.map .int) ⟨none,none,none,none,none,none,none,none⟩) (kS (Fc (run (d+12))) (eN (rN J Q)))):=λn j=>by
  refine lX rfl (by refine rX H ?_;lia) (by refine rX H ?_;lia) ?_;exact d7 (λZ x=>lD (s.map .int) x.2) (λZ x=>x.1) ([],⟨none,none,none,none,none,none,none,none⟩) (λZ Z=>.vals _) (λp i t x P e g=>r9 a λJ z=>g (J,z)) rfl rfl λx=>d0 h ai
 exact k _ (by cases decide ((1:Int)<((s.map MV.int).length:Int))<;>first|exact .inl rfl|exact .inr rfl)
end
end Mine
namespace Mine
open List PySem PySem.W PyProof.Rows PySem.Calls PySem.Challenge
structure aW where
 w:World
 K:Frag
 h₀:Heap
structure Wd where
 fz:Addr->Option Obj
 ls:List Addr
noncomputable def so(T:String)(vs:Array Value)(n:Nat):Obj:={cls:=.type T,data:=.seq vs n}
def uE(od:Obj)(ns:List Str)(vs:List Value):Prop:=
 od.isFreed=false/\∀x,lookIn x od=some ((ns.zip vs).lookup x)
inductive Sq(fz:Addr->Option Obj)(T:String)(P:List Value->Prop)(n:Nat):Value->Prop
 |mk{a vs k}:fz a=some (so T vs k)->P vs.toList->n<=cL->Sq fz T P n (.ref a)
inductive Ob(fz:Addr->Option Obj)(c:Nat)(P:List Value->Prop):Value->Prop
 |mk{a d od vs}:fz a=some (instObj (dD c) d)->fz d=some od->uE od (eu c) vs->P vs->(eu c).length=vs.length->Ob fz c P (.ref a)
inductive Rf(ls:List Addr)(i:Nat):Value->Prop
 |mk{a}:ls[i]?=some a->Rf ls i (.ref a)
inductive Sd(S:aW)(fz:Addr->Option Obj)(ks:List Str)(P:List Value->Prop):Value->Prop
 |mk{a o mQ}:fz a=some o->o.IsDictOf (strKind pw S.w) mQ->(a==sysModules)=false->mQ.map (·.1)=ks->P (mQ.map (·.2))->Sd S fz ks P (.ref a)
inductive Ii(i:Int):Value->Prop
 |mk{t}:Ii i (.int i t)
inductive Is(i:Str):Value->Prop
 |mk{t}:Is i (.str i t)
inductive Cs(P:Value->Prop)(R:List Value->Prop):List Value->Prop
 |mk{v vs}:P v->R vs->Cs P R (v::vs)
mutual
noncomputable def aF(S:aW)(W:Wd):MV->Value->Prop
 | .none=>λv=>.none=v
 | .bool b=>λv=>.bool b=v
 | .int i=>Ii i
 | .str s=>Is s
 | .tup l=>Sq W.fz "tuple" (aC S W l) l.length
 | .aQ l=>Sq W.fz "list" (aC S W l) l.length
 | .obj c l=>Ob W.fz c (aC S W l)
 | .lst i=>Rf W.ls i
 | .iD i=>Rf W.ls i
 | .dZ ks ms=>Sd S W.fz ks (aC S W ms)
 | .fn f=>λv=>.ref (c5 f)=v
noncomputable def aC(S:aW)(W:Wd):List MV->List Value->Prop
 |[]=>λvs=>[]=vs
 |m::ms=>Cs (aF S W m) (aC S W ms)
end
inductive hR(S:aW)(W:Wd)(h:Heap)(a:Addr):MC->Prop
 |list{l vs n}:W.fz a=none->h.get? a=some (so "list" vs n)->aC S W l vs.toList->l.length<=cL->hR S W h a (.list l)
 |dict{l o mQ}:W.fz a=none->h.get? a=some o->o.IsDictOf (strKind pw S.w) mQ->mQ.map (·.1)=l.map (·.1)->aC S W (l.map (·.2)) (mQ.map (·.2))->hR S W h a (.dict l)
 |jq{l vs n}:W.fz a=some (so "list" vs n)->aC S W l vs.toList->l.length<=cL->hR S W h a (.jq l)
structure Rel(S:aW)(W:Wd)(J:MH)(h:Heap):Prop where
 fz:∀{a:Addr}{o:Obj},W.fz a=some o->h.get? a=some o
 base:∀{a:Addr}{o:Obj},S.h₀.get? a=some o->W.fz a=some o
 len:W.ls.length=J.length
 cell:∀{i:Nat}{a:Addr}{c:MC},W.ls[i]?=some a->J[i]?=some c->hR S W h a c
 nd:W.ls.Nodup
 sys:∃o,W.fz sysModules=some o
structure Sub(W W':Wd):Prop where
 fz:∀{a:Addr}{o:Obj},W.fz a=some o->W'.fz a=some o
 ls:∀{i:Nat}{a:Addr},W.ls[i]?=some a->W'.ls[i]?=some a
structure dW(X:List Addr)(W:Wd)(h:Heap)(W':Wd)(h':Heap):Prop where
 sub:Sub W W'
 keep:∀{a:Addr}{o:Obj},h.get? a=some o->a∉W.ls->a∉X->h'.get? a=some o
 live:∀{a:Addr},h'.get? a=none->h.get? a=none
 oc:∀{a:Addr},a∈W'.ls->a∈W.ls\/h.get? a=none
 ra:∀{a:Addr}{o:Obj},W'.fz a=some o->W.fz a=some o\/h.get? a=none\/a∈W.ls
 len:W.ls.length<=W'.ls.length
structure Sh(s s':Shared):Prop where
 gens:s'.gens=s.gens
 drawn:s'.drawn=s.drawn
 os:s'.os=s.os
structure dt(X:List Addr)(W:Wd)(s:Shared)(W':Wd)(s':Shared):Prop extends dW X W s.heap W' s'.heap,Sh s s'
def Sub.refl(W:Wd):Sub W W:=⟨id,id⟩
def Sub.trans(x:Sub W W')(y:Sub W' KO):Sub W KO:=⟨λe=>y.fz (x.fz e),λe=>y.ls (x.ls e)⟩
def Sq.mono(f:∀{a o},fz a=some o->fz' a=some o)(p:∀vs,P vs->P' vs)(h:Sq fz T P n v):Sq fz' T P' n v:=h.casesOn λa b c=>.mk (f a) (p _ b) c
mutual
theorem aF.mono{S:aW}{W W':Wd}(x:Sub W W'):∀(m:MV) (v:Value),aF S W m v->aF S W' m v
 | .none=>λZ h=>h
 | .bool _=>λZ h=>h
 | .int _=>λZ h=>h
 | .str _=>λZ h=>h
 | .fn _=>λZ h=>h
 | .tup l=>λZ h=>Sq.mono x.fz (aC.mono x l) h
 | .aQ l=>λZ h=>Sq.mono x.fz (aC.mono x l) h
 | .obj _ l=>λZ h=>Ob.casesOn h λa b c d e=>.mk (x.fz a) (x.fz b) c (aC.mono x l _ d) e
 | .lst _=>λZ h=>Rf.casesOn h λa=>.mk (x.ls a)
 | .iD _=>λZ h=>Rf.casesOn h λa=>.mk (x.ls a)
 | .dZ _ ms=>λZ h=>Sd.casesOn h λa b c d e=>.mk (x.fz a) b c d (aC.mono x ms _ e)
theorem aC.mono{S:aW}{W W':Wd}(x:Sub W W'):∀(l:List MV) (vs:List Value),aC S W l vs->aC S W' l vs
 |[]=>λZ h=>h
 |m::ms=>λZ h=>Cs.casesOn h λa b=>.mk (aF.mono x m _ a) (aC.mono x ms _ b)
end
section
variable{W:Wd}{J:MH}{h h':Heap}
def hR.mono(x:Sub W W')(f:W.fz a=none->W'.fz a=none)(k:∀{o},h.get? a=some o->h'.get? a=some o)(r:hR S W h a c):hR S W' h' a c:=
 r.casesOn (λp q r t=>.list (f p) (k q) (r.mono x) t) (λp q r t u=>.dict (f p) (k q) r t (u.mono x)) λp q r=>.jq (x.fz p) (q.mono x) r
def hR.here(f:∀{o},W.fz a=some o->h.get? a=some o)(r:hR S W h a c):∃o,h.get? a=some o:=
 r.casesOn (λZ q Z Z=>⟨_,q⟩) (λZ q Z Z Z=>⟨_,q⟩) λp Z Z=>⟨_,f p⟩
theorem aC.length:∀{l:List MV} {vs:List Value},aC S W l vs->l.length=vs.length
 |[],_,h=>congrArg List.length h
 |_::_,_,h=>Cs.casesOn h λZ b=>congrArg (·+1) (aC.length b)
def aC.size{vs:Array Value}(h:aC S W l vs.toList):vs.size=l.length:=h.length.symm
inductive Got(P:Value->Prop):Option Value->Prop
 |mk{v}:P v->Got P (some v)
theorem aC.get:∀{l:List MV} {vs:List Value},aC S W l vs->∀{i:Nat} {m:MV},l[i]?=some m->Got (aF S W m) vs[i]?
 |[],_,_,_,_=>λe=>nn e
 |_::_,_,h,0,_=>λe=>Cs.casesOn h λa Z=>aj e▸.mk a
 |_::_,_,h,_+1,_=>λe=>Cs.casesOn h λZ b=>aC.get b e
def aC.append:∀{l l':List MV} {vs v:List Value},aC S W l vs->aC S W l' v->aC S W (l++l') (vs++v):=by
 intro m;induction m with
 |nil=>exact λh h'=>h▸h'
 |cons _ _ i=>exact λh h'=>Cs.casesOn h λa b=>.mk a (i b h')
def aC.one(r:aF S W m v):aC S W [m] [v]:=.mk r rfl
theorem aC.set:∀{l:List MV} {vs:List Value},aC S W l vs->∀(i:Nat) {m:MV} {v:Value},aF S W m v->aC S W (l.set i m) (vs.set i v)
 |[],_,h,_,_,_=>λZ=>h▸rfl
 |_::_,_,h,0,_,_=>λr=>Cs.casesOn h λZ b=>.mk r b
 |_::_,_,h,i+1,_,_=>λr=>Cs.casesOn h λa b=>.mk a (aC.set b i r)
theorem aC.take:∀{l:List MV} {vs:List Value},aC S W l vs->∀(n:Nat),aC S W (l.take n) (vs.take n)
 |[],_,h,n=>by exact rX h.symm (rX take_nil (rX take_nil (rfl)))
 |_::_,_,_,0=>rfl
 |_::_,_,h,n+1=>Cs.casesOn h λa b=>.mk a (aC.take b n)
theorem aC.drop:∀{l:List MV} {vs:List Value},aC S W l vs->∀(n:Nat),aC S W (l.drop n) (vs.drop n)
 |[],_,h,n=>by exact rX h.symm (rX drop_nil (rX drop_nil (rfl)))
 |_::_,_,h,0=>h
 |_::_,_,h,n+1=>Cs.casesOn h λZ b=>aC.drop b n
theorem aC.replicate(h:aF S W m v):∀n,aC S W (List.replicate n m) (List.replicate n v):=by
 intro a;induction a with
 |zero=>exact rfl
 |succ n i=>exact .mk h (i)
def AK{l:List Addr}(h:a∈l):∃i:Nat,l[i]?=some a:=List.getElem?_of_mem h
def get_mem{l:List Addr}{i:Nat}(h:l[i]?=some a):a∈l:=gh h
def fj{x:Obj}(e:o=none)(q:o=some x):False:=nn (ag e q)
def none_of(k:∀o,h.get? a=some o->False):h.get? a=none:=by
 cases e:h.get? a with
 |none=>rfl
 |some o=>exact(k o e).elim
def De{f:Addr->Option Obj}(k:∀o,f a=some o->False):f a=none:=by
 cases e:f a with
 |none=>rfl
 |some o=>exact(k o e).elim
def Sh.refl(s:Shared):Sh s s:=⟨rfl,rfl,rfl⟩
def Sh.trans(x:Sh s s')(y:Sh s' XW):Sh s XW:=⟨y.gens.trans x.gens,y.drawn.trans x.drawn,y.os.trans x.os⟩
def dW.refl(X:List Addr)(W:Wd)(h:Heap):dW X W h W h:=⟨.refl W,λe Z Z=>e,id,.inl,.inl,di⟩
def dW.mono(x:dW X W h W' h')(f:∀{a},a∈X->a∈Y):dW Y W h W' h':=⟨x.sub,λe n m=>x.keep e n λq=>m (f q),x.live,x.oc,x.ra,x.len⟩
def dW.trans(x:dW X W h W' h')(y:dW X W' h' KO XX):dW X W h KO XX:=
 ⟨x.sub.trans y.sub,λe n m=>y.keep (x.keep e n m) (λH=>(x.oc H).elim n λq=>fj q e) m,λe=>x.live (y.live e),λe=>(y.oc e).elim x.oc λq=>.inr (x.live q),
  λe=>(y.ra e).elim x.ra λq=>q.elim (λq=>.inr (.inl (x.live q))) λq=>(x.oc q).elim (λq=>.inr (.inr q)) λq=>.inr (.inl q),bt x.len y.len⟩
def dt.refl(X:List Addr)(W:Wd)(s:Shared):dt X W s W s:=⟨.refl X W _,Sh.refl s⟩
def dt.trans(x:dt X W s W' s')(y:dt X W' s' KO XW):dt X W s KO XW:=⟨x.todW.trans y.todW,x.toSh.trans y.toSh⟩
def dt.wide(x:dt [] W s W' s'):dt X W s W' s':=.mk (x.todW.mono λq=>ak q d6) x.toSh
theorem dt.toks:dt X W s W {s with toks:=t}:=.mk (.refl X W _) ⟨rfl,rfl,rfl⟩
def Rel.live(R:Rel S W J h)(m:a∈W.ls):∃o,h.get? a=some o:=
 (AK m).elim λZ e=>(R.cell e (dv (R.len▸(cu e)))).here R.fz
def Rel.qp(R:Rel S W J h)(e:h.get? a=none):W.fz a=none:=De λZ q=>fj e (R.fz q)
def Rel.ue(R:Rel S W J h)(e:h.get? a=none):a∉W.ls:=λm=>(R.live m).elim λZ q=>fj e q
def fT(h:Heap):h.get? h.objs.size=none:=none_of λZ e=>Nat.lt_irrefl _ (Heap.lt_size e)
def fJ(x:h.objs.size<=a):h.get? a=none:=none_of λZ e=>Nat.lt_irrefl _ (i7 (Heap.lt_size e) x)
def Rel.heap(R:Rel S W J h)(k:∀{a o},h.get? a=some o->(a∈W.ls\/W.fz a=some o)->h'.get? a=some o):Rel S W J h':=
 ⟨λe=>k (R.fz e) (.inr e),R.base,R.len,λe E=>(R.cell e E).mono (.refl W) id λq=>k q (.inl (get_mem e)),R.nd,R.sys⟩
def Rel.keeps(R:Rel S W J h)(k:∀{a o},h.get? a=some o->h'.get? a=some o):Rel S W J h':=R.heap λe Z=>k e
def Rel.K(R:Rel S W J h)(x:S.K.In S.h₀):S.K.In h:=x.keeps λZ Z e=>R.fz (R.base e)
def pe(k:∀{a o},h.get? a=some o->a∉X->h'.get? a=some o)(l:∀{a},h'.get? a=none->h.get? a=none):dW X W h W h':=⟨.refl W,λe Z m=>k e m,l,.inl,.inl,di⟩
def iI(k:∀{a o},h.get? a=some o->h'.get? a=some o)(e:h'.get? a=none):h.get? a=none:=none_of λZ q=>fj e (k q)
def rd(k:∀{a o},s.heap.get? a=some o->h'.get? a=some o):dt X W s W {s with heap:=h',toks:=t}:=⟨pe (λe Z=>k e) (iI k),⟨rfl,rfl,rfl⟩⟩
noncomputable def Wd.put(W:Wd)(a:Addr)(o:Obj):Wd:={W with fz:=λb=>if b=a then some o else W.fz b}
def jI:(W.put a o).fz a=some o:=aO rfl
def rf(n:b≠a):(W.put a o).fz b=W.fz b:=bc n
def lk{P:Prop}(e:(W.put a o).fz b=some ob)(k:b=a->o=ob->P)(k2:W.fz b=some ob->P):P:=by
 by_cases q:b=a
 ·exact k q (by subst q;exact aj (ag jI e))
 ·exact k2 (ag (rf q) e)
def gB(n:W.fz a=none):Sub W (W.put a o):=⟨λ{b c} e=>(rf (by rintro rfl;exact fj n e)).trans e,id⟩
def Rel.FO(R:Rel S W J h)(n:W.fz a=none)(m:a∉W.ls)(k:∀{b ob},h.get? b=some ob->(b∈W.ls\/W.fz b=some ob)->h'.get? b=some ob)(H:h'.get? a=some o):Rel S (W.put a o) J h':=
 ⟨λe=>lk e (λq p=>by subst q;subst p;exact H) λe=>k (R.fz e) (.inr e),λe=>(gB n).fz (R.base e),R.len,
  λ{i b c} e E=>(R.cell e E).mono (gB n) (λq=>(rf (by rintro rfl;exact m (get_mem e))).trans q) λq=>k q (.inl (get_mem e)),R.nd,R.sys.elim λZ e=>⟨_,(gB n).fz e⟩⟩
def xS(n:W.fz a=none)(H:h.get? a=none)(k:∀{b ob},h.get? b=some ob->b∉X->h'.get? b=some ob)(l:∀{b},h'.get? b=none->h.get? b=none):dW X W h (W.put a o) h':=
 ⟨gB n,λe Z m=>k e m,l,.inl,λe=>lk e (λq Z=>.inr (.inl (q▸H))) .inl,di⟩
noncomputable def Wd.add(W:Wd)(a:Addr):Wd:={W with ls:=W.ls++[a]}
def Wd.oe(W:Wd)(a:Addr):Sub W (W.add a):=⟨id,λe=>(List.getElem?_append_left (cu e)).trans e⟩
def Wd.add_get(e:W.ls.length=J.length)(a:Addr):(W.add a).ls[J.length]?=some a:=e▸List.getElem?_concat_length
def vI{P:Prop}(e:(l++[a])[i]?=some b)(k:l[i]?=some b->P)(k2:i=l.length->a=b->P):P:=by
 by_cases q:i<l.length
 ·exact k (ag (List.getElem?_append_left q) e)
 ·have z:i=l.length:=by
   have:=(cu e);rw[c9]at this;exact bJ (Nat.le_of_lt_succ this) (Nat.le_of_not_lt q)
  exact k2 z (by subst z;exact aj (ag List.getElem?_concat_length e))
def Rel.KP(R:Rel S W J h)(m:a∉W.ls)(k:∀{b ob},h.get? b=some ob->h'.get? b=some ob)(H:hR S (W.add a) h' a c):Rel S (W.add a) (J++[c]) h':=
 ⟨λe=>k (R.fz e),R.base,by rw[c9];refine rX (R.len).symm ?_;exact c9,
  λ{i b d} e E=>vI e (λq=>(R.cell q (ag (List.getElem?_append_left (R.len▸(cu q))) E)).mono (W.oe a) id k)
   λq p=>vI E (λz=>ak (cu z) (rX q (rX R.len (Nat.lt_irrefl _)))) λZ z=>by subst p;subst z;exact H,
  nodup_append.2 ⟨R.nd,nodup_cons.2 ⟨d6,nodup_nil⟩,λx f y g q=>m (d5 g▸q▸f)⟩,R.sys⟩
def xT(H:h.get? a=none)(k:∀{b ob},h.get? b=some ob->h'.get? b=some ob):dW X W h (W.add a) h':=
 ⟨W.oe a,λe Z Z=>k e,iI k,λe=>(iZ e).imp id λq=>(congrArg h.get? (d5 q)).trans H,.inl,length_append.symm▸ar ..⟩
def Rel.upd(R:Rel S W J h)(e:W.ls[i]?=some a)(n:W.fz a=none)(H:Heap.SameBut a h h')(k:hR S W h' a c):Rel S W (J.set i c) h':=
 have keep{b o}(q:h.get? b=some o)(z:b≠a):h'.get? b=some o:=(H.2 b z).trans q
 ⟨λg=>keep (R.fz g) (by rintro rfl;exact fj n g),R.base,R.len.trans length_set.symm,λ{j b d} f E=>by
  by_cases q:i=j
  ·subst q;obtain rfl:=aj (ag e f);rw[List.getElem?_set_self (R.len▸(cu e))]at E;obtain rfl:=aj E;exact k
  ·rw[List.getElem?_set_ne q]at E;exact(R.cell f E).mono (.refl W) id λz=>keep z (by rintro rfl;exact q ((List.getElem?_inj (cu e) R.nd).1 (e.trans f.symm))),R.nd,R.sys⟩
def xU(m:a∈W.ls)(H:Heap.SameBut a h h')(c:h'.get? a=some o):dW X W h W h':=
 ⟨.refl W,λ{b o} e n _=>(H.2 b (by rintro rfl;exact n m)).trans e,λ{b} e=>by
  by_cases q:b=a
  ·exact(fj (q▸e) c).elim
  ·exact ag (H.2 b q) e,.inl,.inl,di⟩
end
inductive Lq(S:aW)(W:Wd)(s:Shared)(Q:MV->MH->Prop)(v:Value)(s':Shared):Prop
 |mk{W' bH m}:dt [] W s W' s'->Rel S W' bH s'.heap->aF S W' m v->Q m bH->Lq S W s Q v s'
inductive KS(S:aW)(W:Wd)(s:Shared)(Q:List MV->MH->Prop)(v:List Value)(s':Shared):Prop
 |mk{W' bH m}:dt [] W s W' s'->Rel S W' bH s'.heap->aC S W' m v->Q m bH->KS S W s Q v s'
inductive Lb(S:aW)(W:Wd)(s:Shared)(Q:Bool->MH->Prop)(b:Bool)(s':Shared):Prop
 |mk{W' bH}:dt [] W s W' s'->Rel S W' bH s'.heap->Q b bH->Lb S W s Q b s'
inductive Lu(S:aW)(W:Wd)(s:Shared)(Q:MH->Prop)(s':Shared):Prop
 |mk{W' bH}:dt [] W s W' s'->Rel S W' bH s'.heap->Q bH->Lu S W s Q s'
abbrev WP(S:aW)(A:Around)(t:Sem α)(Q:α->Shared->Prop)(s:Shared):Prop:=wpAny (model pw S.w) A t Q (λZ Z=>False) s
section
variable{s1:Shared}
def WP.mono(h:WP S A x Q s)(k:∀{v s'},Q v s'->Q' v s'):WP S A x Q' s:=wpAny_mono h (λZ Z=>k) λZ Z e=>e
def WP.bind(h:WP S A x Q s)(k:∀{v s'},Q v s'->WP S A (f v) Q' s'):WP S A (x>>=f) Q' s:=ae (h.mono k)
def WP.L(h:WP S A x (Lq S W s Q) s)(k:∀{v s' W' bH m},dt [] W s W' s'->Rel S W' bH s'.heap->aF S W' m v->Q m bH->WP S A (f v) P s'):WP S A (x>>=f) P s:=
 h.bind λq=>q.casesOn k
def WP.B(h:WP S A x (Lb S W s Q) s)(k:∀{v s' W' bH},dt [] W s W' s'->Rel S W' bH s'.heap->Q v bH->WP S A (f v) P s'):WP S A (x>>=f) P s:=
 h.bind λq=>q.casesOn k
def Lq.pre(f:dt [] W s W1 s1)(h:Lq S W1 s1 Q v s'):Lq S W s Q v s':=h.casesOn λg=>.mk (f.trans g)
def KS.pre(f:dt [] W s W1 s1)(h:KS S W1 s1 Q v s'):KS S W s Q v s':=h.casesOn λg=>.mk (f.trans g)
def Lb.pre(f:dt [] W s W1 s1)(h:Lb S W1 s1 Q v s'):Lb S W s Q v s':=h.casesOn λg=>.mk (f.trans g)
def WP.pre(f:dt [] W s W1 s1)(h:WP S A t (Lq S W1 s1 Q) s'):WP S A t (Lq S W s Q) s':=h.mono (Lq.pre f)
def WP.AL(f:dt [] W s W1 s1)(h:WP S A t (Lb S W1 s1 Q) s'):WP S A t (Lb S W s Q) s':=h.mono (Lb.pre f)
def Lq.same(R:Rel S W J s.heap)(r:aF S W m v)(q:Q m J):Lq S W s Q v {s with toks:=t}:=.mk .toks R r q
def Lq.here(R:Rel S W J s.heap)(r:aF S W m v)(q:Q m J):Lq S W s Q v s:=.mk (.refl ..) R r q
def Lb.here(R:Rel S W J s.heap)(q:Q b J):Lb S W s Q b s:=.mk (.refl ..) R q
def Lq.keeps(R:Rel S W J s.heap)(k:∀{a o},s.heap.get? a=some o->h'.get? a=some o)(r:aF S W m v)(q:Q m J):Lq S W s Q v {s with heap:=h',toks:=t}:=.mk (rd k) (R.keeps k) r q
end
structure f3(A:Around)(d:Nat):Prop where
 handled:A.handled=none
 depth:A.depth+8*d+20<recursionLimit
 units:A.units+60*d+200<cLine
def Apart(Y:List Addr)(W:Wd)(h:Heap):Prop:=∀{b},b∈Y->h.get? b≠none/\b∉W.ls/\W.fz b=none
section
variable{h h':Heap}{Y:List Addr}
def Apart.step(x:Apart Y W h)(st:dW X W h W' h'):Apart Y W' h':=λ{b} m=>
 ⟨λe=>(x m).1 (st.live e),λq=>(st.oc q).elim (x m).2.1 (x m).1,De λZ q=>(st.ra q).elim (fj (x m).2.2) λq=>q.elim (x m).1 (x m).2.1⟩
def Apart.not(x:Apart Y W h)(q:a∈W.ls\/W.fz a=some o)(m:a∈Y):False:=q.elim (x m).2.1 (fj (x m).2.2)
def Rel.apart(R:Rel S W J h)(x:Apart Y W h)(k:∀{b o},b∉Y->h.get? b=some o->h'.get? b=some o):Rel S W J h':=R.heap λe q=>k (x.not q) e
def AM(k:∀{b o},b∉Y->h.get? b=some o->h'.get? b=some o)(l:∀{b},b∈Y->h'.get? b≠none)(e:h'.get? a=none):h.get? a=none:=
 none_of λZ q=>fj e (k (λm=>l m e) q)
def og(k:∀{b o},b∉Y->h.get? b=some o->h'.get? b=some o)(l:∀{b},b∈Y->h'.get? b≠none):dW Y W h W h':=pe (λe m=>k m e) (AM k l)
def dW.finish(x:dW (X++Y) W h W' h')(k:∀{a o},a∉Y->h'.get? a=some o->XX.get? a=some o)(f:∀{a},a∈Y->h.get? a=none):dW X W h W' XX:=
 have ny{a o}(e:h.get? a=some o):a∉Y:=λm=>fj (f m) e
 ⟨x.sub,λe n m=>k (ny e) (x.keep e n λq=>(iZ q).elim m (ny e)),λ{a} e=>none_of λo q=>by
  cases w:h'.get? a with
  |none=>exact(λz=>fj (x.live z) q) w
  |some o'=>exact fj e (k (ny q) w),x.oc,x.ra,x.len⟩
end
end Mine
namespace Mine
open List PySem PySem.W PyProof.Rows PySem.Calls
def ez(h:n<=cL):n<=sizeLine:=bt h (by refine rX sizeLine_eq ?_;decide)
def KW(h:n<=cL):n<2 ^ 62:=iC h (by decide)
inductive oh(S:aW)(W:Wd)(h:Heap)(i:Nat)(l:List MV):Value->Prop
 |mk{a vs n}:W.ls[i]?=some a->W.fz a=none->IsL h a vs n->aC S W l vs.toList->l.length<=cL->oh S W h i l (.ref a)
inductive j6(S:aW)(W:Wd)(h:Heap)(l:List MV):Value->Prop
 |list{a vs n}:IsL h a vs n->aC S W l vs.toList->l.length<=cL->j6 S W h l (.ref a)
 |tuple{a vs n}:IsT h a vs n->aC S W l vs.toList->l.length<=cL->j6 S W h l (.ref a)
inductive Hf(S:aW)(W:Wd)(h:Heap)(l:List MV):Value->Prop
 |mk{a vs n}:IsL h a vs n->aC S W l vs.toList->l.length<=cL->Hf S W h l (.ref a)
inductive RdL(S:aW)(W:Wd)(h:Heap)(i:Nat)(P:List MV->Prop)(v:Value):Prop
 |mk{l}:oh S W h i l v->P l->RdL S W h i P v
inductive AsI(P:Int->Prop):Value->Prop
 |mk{i t}:P i->AsI P (.int i t)
inductive AsS(P:Str->Prop):Value->Prop
 |mk{i t}:P i->AsS P (.str i t)
inductive AsB(P:Bool->Prop):Value->Prop
 |mk{i}:P i->AsB P (.bool i)
inductive KY(S:aW)(W:Wd)(P:MV->Prop):List Value->Prop
 |mk{m v}:aF S W m v->P m->KY S W P [v]
inductive Ar2(S:aW)(W:Wd)(P:MV->MV->Prop):List Value->Prop
 |mk{m v m' v'}:aF S W m v->aF S W m' v'->P m m'->Ar2 S W P [v,v']
section
variable{h:Heap}{α:Type}
def KZ(e:dh a J Q):∃l,J[a]?=some (.list l)/\Q l J:=by with_unfolding_all exact e
def XY(e:kv a J Q):∃l,J[a]?=some (.dict l)/\Q l J:=by with_unfolding_all exact e
def hA(e:ke c x J Q):c/\x J Q:=by with_unfolding_all exact e
def kl(e:ask x J Q):∃a,x=some a/\Q a J:=by with_unfolding_all exact e
def r8(e:iu a l J Q):l.length<=cL/\Q () (J.set a (.list l)):=by with_unfolding_all exact(hA e)
def lM(e:newList l J Q):l.length<=cL/\Q (.lst J.length) (J++[.list l]):=by with_unfolding_all exact(hA e)
def hR.PO(H:W.ls[i]?=some a)(r:hR S W h a (.list l)):oh S W h i l (.ref a):=by
 cases r with
 |list p q r t=>exact .mk H p q r t
def Rel.lst(R:Rel S W J h)(r:aF S W (.lst i) v)(e:J[i]?=some (.list l)):oh S W h i l v:=
 Rf.casesOn r λH=>(R.cell H e).PO H
def Rel.r_(R:Rel S W J h)(r:aF S W (.lst i) v)(e:dh i J Q):RdL S W h i (λl=>Q l J) v:=
 (KZ e).elim λZ q=>.mk (R.lst r q.1) q.2
def ek(e:hY m k J Q)(r:aF S W m v):AsI (λi=>k i J Q) v:=by
 cases m with
 |int i=>exact Ii.casesOn r (.mk e)
 |_=>exact az e
def sg(e:t9 m k J Q)(r:aF S W m v):AsS (λi=>k i J Q) v:=by
 cases m with
 |str i=>exact Is.casesOn r (.mk e)
 |_=>exact az e
def Df(e:G2 m k J Q)(r:aF S W m v):AsB (λi=>k i J Q) v:=by
 cases m with
 |bool i=>exact r▸.mk e
 |_=>exact az e
def qq{G:Prop}(e:wW m k J Q)(r:aF S W m v)(f:∀{i},aF S W (.lst i) v->k i J Q->G):G:=by
 cases m with
 |lst i=>exact f r e
 |_=>exact az e
def SP{G:List Value->Prop}(e:a0 l k J Q)(r:aC S W l vs)(f:k J Q->G []):G vs:=by
 cases l with
 |nil=>exact r▸f e
 |cons _ _=>exact az e
def ll(e:a1 l k J Q)(r:aC S W l vs):KY S W (λm=>k m J Q) vs:=by
 cases l with
 |cons m l=>exact Cs.casesOn r λ{v vs} p q=>SP (G:=λvs=>KY S W (λm=>k m J Q) (v::vs)) e q (KY.mk (P:=λm=>k m J Q) p)
 |nil=>exact az e
def K5(e:a2 l k J Q)(r:aC S W l vs):Ar2 S W (λm a=>k m a J Q) vs:=by
 cases l with
 |cons m l=>exact Cs.casesOn r λ{v vs} p q=>KY.casesOn (ll e q) λP q=>.mk p P q
 |nil=>exact az e
theorem j6.cL(q:j6 S W h l v):l.length<=cL:=q.casesOn (λZ Z c=>c) λZ Z c=>c
def oh.aaD(q:oh S W h i l v):j6 S W h l v:=q.casesOn λZ Z a b c=>.list a b c
inductive Its(S:aW)(W:Wd)(h:Heap)(P:List MV->Prop)(v:Value):Prop
 |mk{l}:j6 S W h l v->P l->Its S W h P v
def Rel.tup(R:Rel S W J h)(r:aF S W (.tup l) v):j6 S W h l v:=Sq.casesOn r λa b c=>.tuple (R.fz a) b c
def Rel.aQ(R:Rel S W J h)(r:aF S W (.aQ l) v):j6 S W h l v:=Sq.casesOn r λa b c=>.list (R.fz a) b c
def Rel.items(R:Rel S W J h)(r:aF S W m v)(e:itemsOf m J Q):Its S W h (λl=>Q l J) v:=by
 cases m with
 |tup l=>exact .mk (R.tup r) e
 |aQ l=>exact .mk (R.aQ r) e
 |lst i=>exact(R.r_ r e).casesOn λa b=>.mk a.aaD b
 |_=>exact az e
def aC.to(h:aC S W l vs)(e:y4=vs):aC S W l y4:=e▸h
theorem Lq.list(R:Rel S W J s.heap)(H:aC S W l vs.toList)(k:∀{a o},s.heap.get? a=some o->h'.get? a=some o)(b:h'.get? s.heap.objs.size=some (so "list" vs n))(q:l.length<=cL/\Q (.lst J.length) (J++[.list l])):
  Lq S W s Q (.ref s.heap.objs.size) {s with heap:=h',toks:=t}:=
 have e:=fT s.heap
 .mk (m:=.lst J.length) (.mk (xT e k) ⟨rfl,rfl,rfl⟩) (R.KP (R.ue e) k (.list (R.qp e) b (H.mono (W.oe _) l _) q.1)) (Rf.mk (Wd.add_get R.len _)) q.2
def fU{o:Obj}(e:h.get? a=some ob):(h.push o).get? a=some ob:=Heap.get?_push_of_some _ e
def Lq.y5(R:Rel S W J s.heap)(H:aC S W l vs.toList)(q:l.length<=cL/\Q (.lst J.length) (J++[.list l])):
  Lq S W s Q (.ref s.heap.objs.size) {s with heap:=s.heap.push {cls:=.type "list",data:=.seq vs},toks:=t}:=
 .list R H fU (Heap.get?_push_size _ rfl) q
def Dg(R:Rel S W J s.heap)(H:aC S W l vs)(e:newList l J Q):WP S A (PySem.newList vs) (Lq S W s Q) s:=
 wpAny_newList (.y5 R H (lM e)) (H.length▸ez (lM e).1)
theorem Lq.tuple(R:Rel S W J s.heap)(H:aC S W l vs.toList)(c:l.length<=cL)(q:Q (.tup l) J):
  Lq S W s Q (.ref s.heap.objs.size) {s with heap:=s.heap.push {cls:=.type "tuple",data:=.seq vs},toks:=t}:=
 have e:=fT s.heap
 .mk (m:=.tup l) (.mk (xS (R.qp e) e (λq Z=>fU q) (iI fU)) ⟨rfl,rfl,rfl⟩) (R.FO (R.qp e) (R.ue e) (λq Z=>fU q) (Heap.get?_push_size s.heap rfl)) (Sq.mk jI (H.mono (gB (R.qp e)) l _) c) q
def AN(R:Rel S W J s.heap)(H:aC S W l vs)(c:l.length<=cL)(e:Q (.tup l) J):WP S A (PySem.newTuple vs) (Lq S W s Q) s:=
 wpAny_newTuple (.tuple R H c e) (H.length▸ez c)
def Lq.mapSeq(R:Rel S W J s.heap)(H:W.ls[i]?=some a)(b:W.fz a=none)(c:IsL s.heap a vs n)(d:aC S W l' (f vs).toList)(r:aF S W m v)(q:l'.length<=cL/\Q m (J.set i (.list l'))):
  Lq S W s Q v {s with heap:=s.heap.update a (Obj.mapSeq f),toks:=t}:=
 .mk (.mk (xU (get_mem H) (Heap.SameBut.update s.heap a (Obj.mapSeq f)) (Heap.get?_update_self (Obj.mapSeq f) c rfl)) ⟨rfl,rfl,rfl⟩) (R.upd H b (Heap.SameBut.update s.heap a (Obj.mapSeq f)) (.list b (Heap.get?_update_self (Obj.mapSeq f) c rfl) d q.1)) r q.2
def IsL.list(x:IsL h a vs n):h.IsList a vs:=⟨_,x,rfl,n,rfl⟩
def Hg(R:Rel S W J s.heap)(b:aF S W (.lst i) vo)(c:aF S W m v)(e:dh i J λl J=>iu i (l++[m]) J λZ J=>Q .none J):
  WP S A (PySem.call (.builtin "list.append") [vo,v]) (Lq S W s Q) s:=
 (R.r_ b e).casesOn λq e=>q.casesOn λd f a H g=>
 call_meets F.slot_list_append ⟨_,a,rfl⟩ F.entry_list_append (F.args_list_append_2 _ _) (list_append _ _ _ v (H.size▸ez g)) ⟨a,.mapSeq (m:=.none) R d f a ((H.append (.one c)).to Array.toList_push) rfl (r8 e)⟩
def K9{a b:Array Value}(z:a.size+b.size<=sizeLine):¬(!a.isEmpty&&Builtin.List.listTooLong (a.size+b.size))=true:=by
 refine rX (show Builtin.List.listTooLong (a.size+b.size)=false from decide_eq_false (Nat.not_lt.2 z)) ?_;rw[Bool.and_false];exact bP
def vJ{vs v:Array Value}(h:aC S W l vs.toList)(H:aC S W l' v.toList)(c:(l++l').length<=cL):vs.size+v.size<=sizeLine:=rX h.size (rX H.size (rX c9.symm (ez c)))
def Hh(R:Rel S W J s.heap)(d:aF S W (.lst i) vo)(f:Hf S W s.heap l' v)(e:dh i J λl J=>iu i (l++l') J λZ J=>Q .none J):
  WP S A (PySem.call (.builtin "list.extend") [vo,v]) (Lq S W s Q) s:=
 (R.r_ d e).casesOn λq e=>q.casesOn λg j b a k=>f.casesOn λc H Z=>
 call_meets F.slot_list_extend ⟨_,b,rfl⟩ F.entry_list_extend (F.args_list_extend_2 _ _) (AutoSeq1.list_extend_list_list_0 _ _ _ _ _ _ (K9 (vJ a H (r8 e).1)) (a.size▸ez k) (Nat.le_succ_of_le (vJ a H (r8 e).1))) ⟨b,c,.mapSeq (m:=.none) R g j b ((a.append H).to Array.toList_append) rfl (r8 e)⟩
def Got.opt(g:Got P x):∃v,x=some v/\P v:=g.casesOn λp=>⟨_,rfl,p⟩
def aC.xV{vs:Array Value}(h:aC S W l vs.toList){i:Nat}(e:l[i]?=some m):∃v,vs[i]?=some v/\aF S W m v:=
 (h.get e).opt.elim λv q=>⟨v,ag Array.getElem?_toList q.1,q.2⟩
def Hi{vs:Array Value}(h:aC S W l vs.toList):aC S W l.dropLast (vs.eraseIdxIfInBounds (vs.size-1)).toList:=rX Array.toList_eraseIdxIfInBounds (rX (Array.length_toList).symm (rX dropLast_eq_take (rX h.length (rX eraseIdx_length_sub_one (rX dropLast_eq_take (h.take _))))))
def XZ(R:Rel S W J s.heap)(c:aF S W (.lst i) vo)(e:dh i J λl J=>ask l.getLast? J λv J=>iu i l.dropLast J λZ J=>Q v J):
  WP S A (PySem.call (.builtin "list.pop") [vo]) (Lq S W s Q) s:=
 (R.r_ c e).casesOn λq e=>q.casesOn λ{a vs n} d f b H j=>(kl e).elim λx e=>
 (H.xV (ag List.getLast?_eq_getElem? e.1)).elim λy g=>
 call_meets F.slot_list_pop ⟨_,b,rfl⟩ F.entry_list_pop (F.args_list_pop_1 _) (MeetsSeq.list_pop_last _ _ _ _ (H.size▸g.1) (H.size▸ez j)) ⟨b,.mapSeq R d f b (Hi H) g.2 (r8 e.2)⟩
end
def K_{J:MH}{n:Nat}{i:Int}{Q}(e:idx n i J Q):∃k:Nat,k<n/\(i=k\/i+n=k)/\Q k J:=by with_unfolding_all exact e
def La{n k:Nat}{i:Int}(H:k<n)(h:i=k\/i+n=k):seqIndex? i n=some k:=by
 have e:(if i<0 then i+(n:Int)else i)=k:=h.elim (λh=>(bc (by lia)).trans h) λh=>(aO (by lia)).trans h;unfold seqIndex?;refine rX e ?_;refine rX (aO (by rw[Bool.and_eq_true];refine rX decide_eq_true_eq ?_;refine rX decide_eq_true_eq ?_;exact⟨Int.natCast_nonneg k,Int.ofNat_lt.2 H⟩)) ?_;rw[Int.toNat_natCast]
def AO{n k:Nat}{i:Int}(H:n<=cL)(a:k<n)(h:i=k\/i+n=k): -(2 ^ 63)<=i/\i<2 ^ 63:=by
 have H:n<=1000000:=H;rcases h with h|h<;>constructor<;>lia
def ri{i:Int}{t:Tok}:aF S W (.int i) (.int i t):=Ii.mk
def gC:aF S W (.str i) (.str i t):=Is.mk
def rb:aF S W (.bool b) (.bool b):=rfl
def rn:aF S W .none .none:=rfl
def Hj{l:List MV}{i:Int}{t:Tok}{k:Nat}{Q:MV->MH->Prop}(R:Rel S W J s.heap)(q:j6 S W s.heap l v)(c:k<l.length)(h:i=k\/i+l.length=k)(e:l[k]?=some m)(a:Q m J):WP S A (getItem v (.int i t)) (Lq S W s Q) s:=
 have b:=AO q.cL c h
 q.casesOn (λd H Z=>(H.xV e).elim λZ g=>h.elim (λh=>wpAny_getItem_list (IsL.list d) (h▸Int.natCast_nonneg k) b.2 (rX h (g.1)) (.here R g.2 a))
   λh=>wpAny_getItem_list_neg (IsL.list d) (by lia) (by refine rX H.size ?_;lia) b.1 (rX H.size (rX h (g.1))) (.here R g.2 a))
  λf H Z=>(H.xV e).elim λZ g=>P.getItem_tuple f b.1 b.2 (H.size.symm▸La c h) g.1 (.here R g.2 a)
def X1(R:Rel S W J s.heap)(q:j6 S W s.heap l v)(H:Q (.int l.length) J):WP S A (PySem.call (.builtin "len") [v]) (Lq S W s Q) s:=
 have b:=Int.ofNat_lt.2 (Nat.lt_trans (KW q.cL) (by decide))
 q.casesOn (λa h Z=>call_len_list (IsL.list a) (h.size.symm▸b) (.same R (h.size▸ri) H))
  λc h Z=>P.len_tuple c (h.size.symm▸Int.not_le.2 b) (.same R (h.size▸ri) H)
def AP{p:Program}{w:World}{E:Value->Shared->Prop}{a:Addr}{vs:Array Value}{n:Nat}{x:Int}{t:Tok}{k:Nat}{Q:Unit->Shared->Prop}(H:IsL s.heap a vs n)
  (c: -(2 ^ 63)<=x)(d:x<2 ^ 63)(b:k<vs.size)(i:x=k\/x+vs.size=k)
  (h:Q () {s with heap:=s.heap.update a (Obj.mapSeq (·.setIfInBounds k v))}):wpAny (model p w) A (setItem (.ref a) (.int x t) v) Q E s:=by
 have f:=(IsL.list H)
 refine aU (ae (wpAny_sequenceKey f.typeIs rfl (ae (wpAny_callSpecial?_slot f.typeIs slot_list_setitem
  (wpAny_call_entry slot_list_setitem f.typeIs entry_list_setitem ?_ (args_list_setitem _ _ _))))))
 have g:Builtin.List.listFitsIndex x=true:=by
  unfold Builtin.List.listFitsIndex;rw[Bool.and_eq_true];refine rX decide_eq_true_eq ?_;refine rX decide_eq_true_eq ?_;exact⟨c,d⟩
 have fin:wpAny (model p w) A.in1 (setSeqItemAt a k v>>=λZ=>PySem.ret .none) (λfin S=>∃r,fin= .done (.ret r)/\wpAny (model p w) A (Pure.pure ()) Q E S) E s:=
  ae (wpAny_setSeqItemAt H rfl (ao ⟨.none,rfl,ao h⟩))
 show wpAny _ _ (Builtin.List.listSubscript? (.int x t)>>=_) _ _ s;refine ae (wpAny_listSubscript_int g ?_);cases x with
 |ofNat j=>
  have e:=i.elim Int.ofNat.inj λe=>ak b (by have e:(j:Int)+vs.size=k:=e;lia);refine ae (ae (wpAny_seqItemAt H rfl (ao ?_)));exact rX e (rX (Array.getElem?_eq_getElem b) fin)
 |negSucc j=>
  refine ae (ae ?_);refine ae (wpAny_seqItems H rfl (ao (ao ?_)));refine rX (La b i) ?_;rw[Option.bind_some];refine rX (Array.getElem?_eq_getElem b) ?_;exact fin
def Hl{i:Nat}{l:List MV}{V:Value}{x:Int}{t:Tok}{k:Nat}{Q:MH->Prop}(R:Rel S W J s.heap)(f:oh S W s.heap i l V)(g:aF S W m v)(H:k<l.length)(c:x=k\/x+l.length=k)(q:(l.set k m).length<=cL/\Q (J.set i (.list (l.set k m)))):
  WP S A (setItem V (.int x t) v) (λZ=>Lu S W s Q) s:=
 f.casesOn λj n e h o=>
 have b:=AO o H c
 AP e b.1 b.2 (h.size.symm▸H) (h.size.symm▸c) ((Lq.mapSeq (m:=.none) R j n e ((h.set k g).to Array.toList_setIfInBounds) rfl q).casesOn λa b Z d=>.mk a b d)
noncomputable def SQ(o:Bo):Operator:=match o with
 | .add=>.Add
 | .sub=>.Sub
 | .mul=>.Mult
 | .fdiv=>.FloorDiv
 | .mod=>.Mod
 | .pow=>.Pow
def PU{J:MH}{n:Int}{Q}(e:ER n J Q):∃k:Nat,n=k/\Q k J:=by with_unfolding_all exact e
def si(v:Value):∀(n:Nat) (a:Array Value),(List.foldl (λx1 x2=>x1++x2) a (List.replicate n #[v])).toList=a.toList++List.replicate n v:=by
 intro m;induction m with
 |zero=>exact λa=>(append_nil _).symm
 |succ n i=>exact λa=>(i (a++ #[v])).trans (by refine rX Array.toList_append ?_;rw[append_assoc];rfl)
def tJ{a:Int}(h:a.natAbs<2 ^ 60):Builtin.Int.intBits a<=64:=
 intBits_le_64 (by omega) (Int.lt_of_le_of_lt Int.le_natAbs (Int.ofNat_lt.2 (Nat.lt_trans h (by decide))))
def Dh{l:Addr}{i:Array Value}{k:Nat}{x:Int}{u:Tok}{Q:Value->Shared->Prop}(H:IsL s.heap l i k)(b:0<=x)(c:x<=1000000)(a:i.size<=1)
  (h:Q (.ref s.heap.objs.size) {s with heap:=s.heap.push {cls:=.type "list",data:=.seq (List.foldl (λx1 x2=>x1++x2) #[] (List.replicate (if i.isEmpty=true then 0 else x.toNat) i))}}):
  WP S A (binaryOp .Mult (.ref l) (.int x u)) Q s:=by
 have e:i.size*x.toNat<=1000000:=bt (Nat.mul_le_mul_right _ a) (by lia)
 exact wpAny_binaryOp_repeat_ref rfl ⟨_,H,rfl⟩ (λd=>typeIs_int d x u) noFill_list_mul F.fills_int_mul F.slot_int_rmul repeat_list F.slot_int_index.lookup
  (call_meets F.slot_int_rmul (typeIs_int s x u) F.entry_int_rmul (F.args_int_rmul_2 _ _) (int___rmul___int_list x u l i k)
   ⟨H,rfl,⟨_,H,rfl⟩,call_meets F.slot_list_mul ⟨_,H,rfl⟩ F.entry_list_mul (F.args_list_mul_2 _ _)
    (AutoListH.list___mul___list_int_3 l i k x u (by simp[Builtin.List.listFitsIndex];lia) (by lia) (by simp[Builtin.List.listTooLong,sizeLine];exact av e)) ⟨H,h⟩⟩)
def mj(R:Rel S W J h)(r:aF S W m v)(e:EP m J Q):∃l,Hf S W h l v/\Q l J:=by
 cases m with
 |aQ l=>exact⟨l,Sq.casesOn r λa b=>.mk (R.fz a) b,e⟩
 |lst i=>exact(R.r_ r e).casesOn λ{l} a b=>⟨l,a.casesOn λZ Z a b=>.mk a b,b⟩
 |_=>exact az e
def X2(R:Rel S W J s.heap)(r:aF S W a va)(rb:aF S W b vb)(e:binop .add a b J Q):WP S A (binaryOp .Add va vb) (Lq S W s Q) s:=by
 cases a with
 |int i=>exact Ii.casesOn r ((ek e rb).casesOn λe=>PyProof.Rows.add_int (.same R ri e))
 |str i=>exact Is.casesOn r ((sg e rb).casesOn λe=>have e:=hA e;PyProof.Rows.add_str (λZ Z=>.same R gC e.2) (ez e.1))
 |lst i=>exact(R.r_ r e).casesOn λq e=>q.casesOn λZ Z d H Z=>(mj R rb e).elim λZ z=>z.1.casesOn λc h Z=>
   have e:=lM z.2
   P.add_list d c (.y5 R ((H.append h).to Array.toList_append) e) (vJ H h e.1)
 |_=>exact az e
def PV(h:[v]=vs.toList):vs= #[v]:=Array.ext' h.symm
def aaE{l:List MV}{vs:Array Value}{a:Addr}{k:Nat}{x:Int}{t:Tok}{Q:MV->MH->Prop}(R:Rel S W J s.heap)(H:IsL s.heap a vs k)(h:aC S W l vs.toList)(e:a1 l (λX=>dj (ER x) λk=>newList (List.replicate k X)) J Q):
  WP S A (binaryOp .Mult (.ref a) (.int x t)) (Lq S W s Q) s:=by
 generalize q:vs.toList=us at h;refine(ll e h).casesOn (λ{m v} b e q=>?_) q.symm;obtain rfl:=PV q;exact(PU e).elim λk e=>have E:=lM e.2;Dh H (e.1▸Int.natCast_nonneg k) (e.1▸Int.ofNat_le.2 (bt (bx length_replicate.symm) E.1:k<=1000000)) di (.y5 R ((aC.replicate b k).to (rX e.1 ((si _ _ _).trans rfl))) E)
def X3(R:Rel S W J s.heap)(r:aF S W a va)(rb:aF S W b vb)(e:binop .mul a b J Q):WP S A (binaryOp .Mult va vb) (Lq S W s Q) s:=by
 cases a with
 |int i=>exact Ii.casesOn r ((ek e rb).casesOn λe=>have e:=hA e;PyProof.Rows.mul_int (.same R ri e.2) (IntMulOk.of_left (tJ e.1)))
 |lst i=>exact(ek e rb).casesOn λe=>(R.r_ r e).casesOn λq e=>q.casesOn λZ Z H h Z=>aaE R H h e
 |_=>exact az e
def Lc{o:Bo}(R:Rel S W J s.heap)(r:aF S W a va)(rb:aF S W b vb)(e:binop o a b J Q):WP S A (binaryOp (SQ o) va vb) (Lq S W s Q) s:=by
 cases o with
 |add=>exact X2 R r rb e
 |mul=>exact X3 R r rb e
 |sub=>exact(ek e r).casesOn λe=>(ek e rb).casesOn λe=>PyProof.Rows.sub_int (.same R ri e)
 |fdiv=>exact(ek e r).casesOn λe=>(ek e rb).casesOn λe=>have e:=hA e;PyProof.Rows.floordiv_int e.1.1 (.same R ri e.2) (.inl (PyProof.noPylong_small (Nat.lt_trans e.1.2 (by decide))))
 |mod=>exact(ek e r).casesOn λe=>(ek e rb).casesOn λe=>have e:=hA e;PyProof.Rows.mod_int' e.1 (.same R ri e.2)
 |pow=>exact(ek e r).casesOn λe=>(ek e rb).casesOn λe=>have e:=hA e;PyProof.Rows.pow_int e.1.1 (Int.le_trans (Int.mul_le_mul (Int.ofNat_le.2 (tJ e.1.2.2)) e.1.2.1 e.1.1 (by decide)) (by decide)) (.same R ri e.2)
def Hm(a b:Str):seq a b=(a.cps.toList==b.cps.toList):=ag (lj a b) (by rw[Bool.eq_iff_iff,beq_iff_eq,beq_iff_eq];exact⟨λe=>e▸rfl,λe=>by cases a;cases b;exact congrArg _ (Array.ext' e)⟩)
noncomputable def xn(g b:Bool):Bool:=match g with|true=>b|false=>!b
inductive Told(h:Heap)(n:Nat)(v:Value)(d:PyData):Prop
 |mk{as}:Reads h v d as->d.canLay0=true->d.depth<=n->Told h n v d
inductive vK(h:Heap)(n:Nat)(v:List Value)(d:List PyData):Prop
 |mk{as}:ReadsAll h v d as->PyData.canLayAll0 d=true->PyData.depthAll d<=n->vK h n v d
inductive mR(S:aW)(W:Wd)(s:Shared)(Q:Bool->MH->Prop):Value->Shared->Prop
 |mk{W' bH b s'}:dt [] W s W' s'->Rel S W' bH s'.heap->Q b bH->mR S W s Q (.bool b) s'
inductive xa(S:aW)(W:Wd):Option MV->Option Value->Prop
 |no:xa S W none none
 |ye{m v}:aF S W m v->xa S W (some m) (some v)
section
variable{S:aW}
def mR.here(R:Rel S W J s.heap)(q:Q b J):mR S W s Q (.bool b) s:=.mk (.refl ..) R q
def mR.same(R:Rel S W J s.heap)(q:Q b J):mR S W s Q (.bool b) {s with toks:=t}:=.mk .toks R q
def Di{c β:Type}{f:c->β}{x:Option c}{P:β->Prop}{b:β}(e:x.map f=some b)(k:∀{a},x=some a->P (f a)):P b:=by
 cases x with
 |none=>exact nn e
 |some a=>obtain rfl:=aj e;exact k rfl
def rg{P:List β->Prop}(e:dM f (a::l)=some r)(k:∀{b bs},f a=some b->dM f l=some bs->P (b::bs)):P r:=by
 dsimp only[dM]at e;cases z:f a with
 |none=>have e:=z▸e;exact nn e
 |some d=>
  rw[z]at e;cases c:dM f l with
  |none=>rw[c]at e;exact nn e
  |some D=>
   rw[c]at e;obtain rfl:=aj e;exact k z c
def qr(f:∀{m v d},aF S W m v->bV J n m=some d->Told h n v d):∀{l:List MV} {vs ds},aC S W l vs->dM (bV J n) l=some ds->vK h n vs ds:=by
 intro i;induction i with
 |nil=>exact λr e=>r▸aj e▸.mk .nil rfl aZ
 |cons _ _ j=>exact λr e=>rg e λz g=>Cs.casesOn r λp q=>(f p z).casesOn λa b c=>(j q g).casesOn λA B C=>.mk (.cons a A) (Bool.and_eq_true_iff.2 ⟨b,B⟩) (Nat.max_le.2 ⟨c,C⟩)
theorem Told.list{o:Obj}(H:h.get? a=some o)(d:o.cls= .type "list")(e:o.data= .seq vs k)(t:vK h n vs.toList ds):Told h (n+1) (.ref a) (.list ds):=t.casesOn λa b c=>.mk (.list H d e a) b (Nat.succ_le_succ c)
def Told.tup{o:Obj}(H:h.get? a=some o)(d:o.cls= .type "tuple")(e:o.data= .seq vs k)(t:vK h n vs.toList ds):Told h (n+1) (.ref a) (.tuple ds):=t.casesOn λa b c=>.mk (.tuple H d e a) b (Nat.succ_le_succ c)
theorem pf(R:Rel S W J h):∀(n:Nat) {m v d},aF S W m v->bV J n m=some d->Told h n v d
 |0,_=>λZ e=>nn e
 |n+1,m=>λr e=>by
  have all{l:List MV}{vs ds}:aC S W l vs->dM (bV J n) l=some ds->vK h n vs ds:=qr (λ{m _ _}=>pf R n);cases m with
  |none=>exact r▸aj e▸.mk .none rfl aZ
  |bool b=>exact r▸aj e▸.mk (.bool _) rfl aZ
  |int i=>exact Ii.casesOn r (aj e▸.mk (.int _ _) rfl aZ)
  |str i=>
   replace e:(if PyData.strOk i=true then some (PyData.str i)else none)=some _:=e;by_cases c:PyData.strOk i=true
   ·rw[aO c]at e;exact Is.casesOn r (aj e▸.mk (.str _ _) c aZ)
   ·rw[bc c]at e;exact nn e
  |tup l=>exact Di e λq=>Sq.casesOn r λa b Z=>.tup (R.fz a) rfl rfl (all b q)
  |aQ l=>exact Di e λq=>Sq.casesOn r λa b Z=>.list (R.fz a) rfl rfl (all b q)
  |lst i=>
   dsimp only[bV]at e;cases z:J[i]? with
   |none=>rw[z]at e;exact nn e
   |some c=>
    rw[z]at e;cases c with
    |list l=>exact Di e λq=>(R.lst r z).casesOn λZ Z a b Z=>.list a rfl rfl (all b q)
    |_=>exact nn e
  |_=>exact nn e
inductive Dat(h:Heap)(P:PyData->Prop)(v:Value):Prop
 |mk{d}:Told h 8 v d->P d->Dat h P v
def Dj(R:Rel S W J h)(r:aF S W m v)(e:dat m J Q):Dat h (λd=>Q d J) v:=
 Exists.elim e λZ q=>.mk (pf R 8 r q.1) q.2
def vL(t:Told h 8 v d):SeqAt.shaped d=true:=t.casesOn λZ c p=>Bool.and_eq_true_iff.2 ⟨c,bA (bt p (by decide))⟩
def y6{Q:Bool->MH->Prop}(e:Q b J):Q (xn false !b) J:=by cases b<;>exact e
noncomputable def Ld(g:Bool):CmpOp:=match g with|true=>.Eq|false=>.NotEq
def X4{Q:Bool->MH->Prop}(h:f3 A d)(R:Rel S W J s.heap)(r:aF S W a va)(rb:aF S W b vb)(e:dat a J λx Z=>dat b J λy Z=>Q (PyData.eqv x y) J):
  WP S A (compareOp (Ld g) va vb) (mR S W s λb=>Q (xn g b)) s:=
 (Dj R r e).casesOn λt e=>(Dj R rb e).casesOn λT e=>
 have s1:=vL t;have s2:=vL T;have u:A.units+64<cLine:=by have:=h.units;exact bX 0x60c82750012604025011 rfl this
 t.casesOn λt Z Z=>T.casesOn λT Z Z=>g.casesOn (ne_dataH t T s1 s2 u (.here R (y6 e))) (eq_dataH t T s1 s2 u (.here R e))
def X5(e:wX g a b J Q):(g=true/\G4 a/\G4 b/\itemsOf a J λl Z=>itemsOf b J λm Z=>l.length≠m.length/\Q false J)\/dat a J λx Z=>dat b J λy Z=>Q (PyData.eqv x y) J:=by with_unfolding_all exact e
def Dk(R:Rel S W J h)(i:G4 a)(r:aF S W a va)(e:itemsOf a J Q):∃l,Hf S W h l va/\Q l J:=by
 refine I λk=>?_;cases a with
 |lst i=>exact k (mj R r e)
 |aQ l=>exact k (mj R r e)
 |_=>exact az i
def X6(f:f3 A d)(R:Rel S W J s.heap)(r:aF S W a va)(rb:aF S W b vb)(e:wX g a b J Q):
  WP S A (compareOp (Ld g) va vb) (mR S W s λb=>Q (xn g b)) s:=
 (X5 e).elim (λe=>(Dk R e.2.1 r e.2.2.2).elim λZ z=>(Dk R e.2.2.1 rb z.2).elim λZ c=>
  have u:A.units<cLine:=by have:=f.units;exact bX 0x60c827500126511 rfl this
  z.1.casesOn λi j Z=>c.1.casesOn λh H Z=>by
   obtain rfl:=e.1;exact P.eq_list_lengths i h (bne_iff_ne.2 (rX j.size (rX H.size (c.2.1)))) u (.here R c.2.2))
 (X4 f R r rb)
inductive Le(g:Bool):MV->MV->M Bool->Prop
 |i{i j}:Le g (.int i) (.int j) (ret (i==j))
 |s{i j}:Le g (.str i) (.str j) (ret (seq i j))
 |b{i j}:Le g (.bool i) (.bool j) (ret (i==j))
 |g{a b}:Le g a b (wX g a b)
def eqk(g:Bool):∀a b:MV,Le g a b (yv g a b)
 | .int _,b=>by cases b<;>first|exact .i|exact .g
 | .str _,b=>by cases b<;>first|exact .s|exact .g
 | .bool _,b=>by cases b<;>first|exact .b|exact .g
 | .none,_| .tup _,_| .obj ..,_| .lst _,_| .iD _,_| .aQ _,_| .dZ ..,_| .fn _,_=>.g
def Lf(h:f3 A d)(R:Rel S W J s.heap):aF S W a va->aF S W b vb->yv g a b J Q->
  WP S A (compareOp (Ld g) va vb) (mR S W s λb=>Q (xn g b)) s:=
 (eqk g a b).casesOn
  (λr rb e=>Ii.casesOn r (Ii.casesOn rb (g.casesOn (λe=>PyProof.Rows.ne_int (.here R (y6 e))) (λe=>PyProof.Rows.eq_int (.here R e)) (e:Q _ _))))
  (λ{i j} r rb e=>Is.casesOn r (Is.casesOn rb (g.casesOn (λe=>P.ne_str (.here R (y6 e))) (λe=>P.eq_str (.here R e)) (Hm i j▸e:Q _ _))))
  (λ{i j} r rb e=>Eq.casesOn r (Eq.casesOn rb (g.casesOn (λe=>PyProof.Rows.ne_bool (.here R (y6 e))) (λe=>PyProof.Rows.eq_bool (.here R e)) (e:Q _ _))))
  (X6 h R)
def inM(x:MV)(l:List MV):M Bool:=λJ Q=>(∃k a,x= .str k/\strsOf l=some a/\Q (c7 k a) J)\/dat x J λx Z=>∃l',dM (bV J 8) l=some l'/\Q (kx x l') J
noncomputable def SR(g:Bool):CmpOp:=match g with|true=>.In|false=>.NotIn
def Dl(k:Str):∀a,c7 k a=a.any (·==k):=by
 intro m;induction m with
 |nil=>exact rfl
 |cons s a i=>
  refine rX any_cons ?_;rw[lj];refine rX i.symm ?_;show(match seq s k with|true=>true|false=>c7 k a)=_;cases seq s k<;>rfl
def PW{P:List Str->Prop}(e:strsOf (.str i::l)=some ks)(k:∀{r},strsOf l=some r->P (i::r)):P ks:=by
 dsimp only[strsOf]at e;cases z:strsOf l with
 |none=>rw[z]at e;exact nn e
 |some r=>
  rw[z]at e;obtain rfl:=aj e;exact k z
theorem oj:∀{l:List MV} {vs ks},aC S W l vs->strsOf l=some ks->StrsAre vs ks
 |[]=>λr e=>r▸aj e▸.nil
 |m::l=>λr e=>by
  cases m with
  |str i=>exact PW e λz=>Cs.casesOn r λp q=>Is.casesOn p (.cons _ _ (oj q z))
  |_=>exact nn e
def Lg(f:f3 A d)(R:Rel S W J s.heap)(r:aF S W x vx)(q:j6 S W s.heap l v)(e:inM x l J Q):
  WP S A (compareOp (SR g) vx v) (mR S W s λb=>Q (xn g b)) s:=by
 rcases e with⟨k,ks,rfl,e1,e⟩|e
 ·rw[Dl]at e
  exact Is.casesOn r (q.casesOn
   (λH h Z=>g.casesOn (notin_list_strs (IsL.list H) (oj h e1) (.here R (y6 e))) (in_list_strs (IsL.list H) (oj h e1) (.here R e)))
   λa h Z=>g.casesOn (notin_tuple_strs ⟨_,a,rfl,_,rfl⟩ (oj h e1) (.here R (y6 e))) (in_tuple_strs ⟨_,a,rfl,_,rfl⟩ (oj h e1) (.here R e)))
 ·exact(Dj R r e).casesOn λ{D} t e=>e.elim λZ e=>t.casesOn λc c1 p1=>
  have u(n:Nat):A.units+1+min n D.depth<cLine:=lS 0x861170c8295001281811761150011 rfl p1 f.units (Nat.min_le_right n D.depth)
  q.casesOn
   (λH h Z=>(qr (pf R 8) h e.1).casesOn λT c2 Z=>g.casesOn (SeqAt.notIn_list_reads (.list H rfl rfl T) c c2 c1 (u _) (.here R (y6 e.2))) (SeqAt.in_list_reads (.list H rfl rfl T) c c2 c1 (u _) (.here R e.2)))
   λa h Z=>(qr (pf R 8) h e.1).casesOn λT c2 Z=>g.casesOn (SeqAt.notIn_tuple_reads (.tuple a rfl rfl T) c c2 c1 (u _) (.here R (y6 e.2))) (SeqAt.in_tuple_reads (.tuple a rfl rfl T) c c2 c1 (u _) (.here R e.2))
theorem mm(k:Str):∀(c:List (Str×Value)) {d:List MV},aC S W d (c.map (·.2))->xa S W (look (c.map (·.1)) d k) (valueAt c k)
 |[],d=>λZ=>.no
 |p::c,[]=>λr=>nomatch r
 |p::c,m::d=>λr=>by
  obtain⟨a,b⟩:=r;have i:=mm k c b;unfold valueAt at i⊢;refine rX List.find?_cons ?_;show xa S W (match seq p.1 k with|true=>some m|false=>look (c.map (·.1)) d k) _;by_cases q:p.1=k
  ·refine rX (bA q) ?_;refine rX q ?_;rw[pa];exact .ye a
  ·exact rX (decide_eq_false q) (rX (show seq p.1 k=false from ag (lj _ _) (beq_eq_false_iff_ne.2 q)) (i))
def AQ(k:Str):∀(l:List (Str×MV)),fN l k=look (l.map (·.1)) (l.map (·.2)) k:=by
 intro m;induction m with
 |nil=>exact rfl
 |cons p l i=>exact congrArg (λx=>match seq p.1 k with|true=>some p.2|false=>x) (i)
def xa.getD(q:xa S W x y)(r:aF S W m v):aF S W (x.getD m) (y.getD v):=q.casesOn r id
def xa.isSome(q:xa S W x y):y.isSome=x.isSome:=q.casesOn rfl λZ=>rfl
def xa.get(q:xa S W x y):x=some m->∃v,y=some v/\aF S W m v:=q.casesOn (λe=>nn e) λr e=>⟨_,rfl,aj e▸r⟩
def mS(k:Str)(t:Tok):(strKind pw S.w).is k (.str k t)=true:=by simp[PySem.strKind,Value.isStrOf]
inductive FQ(S:aW)(W:Wd)(h:Heap)(ks:List Str)(ms:List MV):Value->Prop
 |mk{a mQ}:h.DictOf (strKind pw S.w) a mQ->(a==sysModules)=false->mQ.map (·.1)=ks->aC S W ms (mQ.map (·.2))->FQ S W h ks ms (.ref a)
def Rel.dZ(R:Rel S W J h)(r:aF S W (.dZ ks ms) v):FQ S W h ks ms v:=
 Sd.casesOn r λa b c d e=>.mk (Heap.dictOf_iff.2 ⟨_,R.fz a,b⟩) c d e
inductive X7(x:MV):MV->M Bool->Prop
 |d{ks vs}:X7 x (.dZ ks vs) (t9 x λk=>ret (look ks vs k).isSome)
 |g{c}:X7 x c (dj (itemsOf c) (inM x))
def ink(x c:MV):X7 x c (contains x c):=by
 unfold contains;cases c<;>first|exact .d|exact .g
def tK(a:f3 A d)(R:Rel S W J s.heap)(r:aF S W x vx):aF S W c vc->contains x c J Q->
  WP S A (compareOp (SR g) vx vc) (mR S W s λb=>Q (xn g b)) s:=
 (ink x c).casesOn (λrc e=>(R.dZ rc).casesOn λh H f j=>(sg e r).casesOn λ{i t} e=>
   have e:=(mm i _ j).isSome.symm▸f.symm▸e
   g.casesOn (wpAny_notIn_of (mS _ _) H h.mapOf (.same R (y6 e))) (wpAny_in_of (mS _ _) H h.mapOf (.same R e)))
  λrc e=>(R.items rc e).casesOn λq e=>Lg a R r q e
end
inductive om(n d:Nat):Value->Option Int->Nat->Prop
 |none:om n d .none none d
 |int{k:Nat}{t}:om n d (.int k t) (some k) (min k n)
inductive Bdk(n d:Nat)(P:Nat->Prop)(v:Value):Prop
 |mk{o k}:om n d v o k->P k->Bdk n d P v
def X8(i n:Nat):max 0 (min (if(i:Int)<0 then(i:Int)+n else i) (n:Int))=((min i n:Nat):Int):=by
 refine rX (bc (Int.not_lt.2 (Int.natCast_nonneg i))) ?_;rcases Nat.le_total i n with h|h
 ·exact rX (Int.min_eq_left (Int.ofNat_le.2 h)) (rX (Nat.min_eq_left h) (Int.max_eq_right (Int.natCast_nonneg i)))
 ·exact rX (Int.min_eq_right (Int.ofNat_le.2 h)) (rX (Nat.min_eq_right h) (Int.max_eq_right (Int.natCast_nonneg n)))
noncomputable def clp(n d:Nat)(o:Option Int):Int:=match o with|none=>(d:Int)|some i=>max 0 (min (if i<0 then i+n else i) (n:Int))
def om.part{o:Option Int}(b:om n d v o k):IsPart v o:=b.casesOn .none (.int _ _)
def om.le{o:Option Int}(b:om n d v o k)(q:d<=n):k<=n:=b.casesOn q (Nat.min_le_right _ _)
def om.clip{o:Option Int}(b:om n d v o k):clp n d o=(k:Int):=b.casesOn rfl (X8 _ _)
def FR(r:aF S W m v)(e:cutAt n d m J Q):Bdk n d (λk=>Q k J) v:=by
 cases m with
 |none=>exact r▸.mk .none e
 |int i=>exact Ii.casesOn r (Exists.elim e λk e=>e.1▸.mk .int e.2)
 |_=>exact az e
def Hn{lo:Option Int}(xs:Array Value)(h:xs.size=n)(H:om n 0 vl lo a)(hh:om n n vh hi b):
  (slicePick xs lo hi none).toList=(xs.toList.take b).drop a:=by
 have e:sliceBounds lo hi none xs.size=((a:Int),(b:Int),1):=by
  refine rX h (rX (H.clip).symm (rX (hh.clip).symm ?_));cases lo<;>cases hi<;>rfl
 unfold slicePick;refine rX e ?_;rw[sliceRange_one,pick_run,drop_take]
def Ho{lo:MV}(R:Rel S W J s.heap)(q:Hf S W s.heap l v)(a:aF S W lo vl)(d:aF S W hi vh)
  (H:s.heap.IsSliceOf sl vl vh .none)(e:cut l lo hi J λr J=>newList r J Q):WP S A (getItem v (.ref sl)) (Lq S W s Q) s:=
 q.casesOn λ{_ vs _} f h c=>(FR a e).casesOn λb e=>(FR d e).casesOn λB e=>
 wpAny_getItem_list_slice (IsL.list f) H b.part B.part .none (λe=>nn e) (.y5 R (((h.take _).drop _).to (Hn vs h.size b B)) (lM e)) (h.size▸ez c)
def Lh(h:IsTup s.heap a vs)(c:s.heap.IsSliceOf sl (.int (0:Nat) t) .none .none)(e:Q (.ref a) s):WP S A (getItem (.ref a) (.ref sl)) Q s:=by
 obtain⟨os,H,b,d⟩:=id c
 refine aU (ae (wpAny_sequenceKey h.typeIs rfl (ae (wpAny_callSpecial?_slot h.typeIs slot_tuple_getitem
  (wpAny_call_entry slot_tuple_getitem h.typeIs entry_tuple_getitem ?_ (args_tuple_getitem _ _))))))
 show wpAny _ _ (Builtin.Tuple.tupleItemsOf (.ref a)>>=_) _ _ s;refine ae (tupleItemsOf_ h (ae (wpAny_typeOf (show s.TypeIs (.ref sl) "slice" from⟨os,H,b⟩) ?_)));refine rX (aO rfl) ?_;refine ae (sliceApplied_from c aZ ?_);show wpAny _ _ (if(((0:Nat):Int)==0&&(1:Int)==1&&(vs.size-0)==vs.size)=true then _ else _) _ _ s;refine rX (aO (by simp)) ?_;refine ae (ae (wpAny_typeOf h.typeIs (ao ?_)));exact rX (aO rfl) (ae (wpAny_rule (ao ⟨_,rfl,ao e⟩)))
def Hp{k:Nat}(R:Rel S W J s.heap)(r:aF S W (.tup l) v)(h:s.heap.IsSliceOf sl (.int k t) .none .none)(b:k<=l.length)(c:l.length<=cL)(e:Q (.tup (l.drop k)) J):
  WP S A (getItem v (.ref sl)) (Lq S W s Q) s:=
 Sq.casesOn r λ{a vs n} d H _=>
 have f:=⟨_,R.fz d,rfl,n,rfl⟩
 Nat.casesOn k
  (λh Z e=>Lh f h (.here (m:=.tup l) R (Sq.mk d H c) e))
  (λk h b e=>getItem_tuple_from f h (Nat.succ_le_succ (Nat.zero_le k)) (H.size.symm▸b) (Lq.tuple R (H.drop (k+1)) (bt (bx length_drop) (bt (Nat.sub_le _ _) c)) e) (H.size.symm▸ez c)) h b e
def om.pv{o:Option Int}(b:om n d v o k):∃p:Option (Int×Tok),partValue p=v/\p.map (·.1)=o:=b.casesOn ⟨Option.none,rfl,rfl⟩ λ{k t}=>⟨some (k,t),rfl,rfl⟩
def Li{lo:Option Int}(x:Str)(h:om x.length 0 vl lo a)(hh:om x.length x.length vh hi b):
  Builtin.Str.strSliceIndices lo hi 1 x.length=(List.range (b-a)).map (a+ ·):=by
 rw[<-sliceRange_one];refine rX (h.clip).symm ?_;refine rX (hh.clip).symm ?_;cases lo<;>cases hi<;>rfl
def Dm{lo:Option Int}(R:Rel S W J s.heap)(B:om x.length 0 vl lo a)(d:om x.length x.length vh hi b)
  (h:s.heap.IsSliceOf sl vl vh .none)(c:x.length<=cL)(e:Q (.str ⟨((x.cps.toList.take b).drop a).toArray⟩) J):WP S A (getItem (.str x t) (.ref sl)) (Lq S W s Q) s:=by
 obtain⟨pl,f,E⟩:=B.pv;obtain⟨P,g,i⟩:=d.pv;refine wpAny_getItem_str_slice (st:=none) (g▸f▸h) rfl ?_
 have H:slicePicked x pl P none=(List.range (b-a)).map (a+ ·):=by
  unfold slicePicked;exact rX E (rX i (Li x B d))
 unfold sliceMade;refine rX H ?_;rw[pick_run];refine rX (drop_take).symm ?_;split
 ·rename_i z;rw[cX,length_range,Bool.and_eq_true,beq_iff_eq,beq_iff_eq]at z;have q:=bJ (d.le di) (z.2▸Nat.sub_le b a);have e:=(take_of_length_le (Nat.le_refl x.length))▸drop_zero▸q▸((Nat.eq_zero_or_pos a).elim id λp=>ak z.2 (cm (q▸Nat.sub_lt (q.symm▸i7 p (B.le aZ)) p)))▸e;exact .here R gC e
 ·exact⟨bt (by show((x.cps.toList.take b).drop a).toArray.size<=_;exact rX size_toArray (rX length_drop (rX length_take (bt (Nat.sub_le _ _) (Nat.min_le_right _ _))))) (ez c),.same R gC e⟩
def AR{lo:MV}(R:Rel S W J s.heap)(r:aF S W lo vl)(a:aF S W hi vh)
  (h:s.heap.IsSliceOf sl vl vh .none)(c:x.length<=cL)(e:cut x.cps.toList lo hi J λl J=>Q (.str ⟨l.toArray⟩) J):WP S A (getItem (.str x t) (.ref sl)) (Lq S W s Q) s:=
 (FR r e).casesOn λb e=>(FR a e).casesOn λB e=>Dm R b B h c e
inductive Lj(lo hi:MV):MV->M MV->Prop
 |s{x:Str}:Lj lo hi (.str x) (ke (x.length<=cL) (dj (cut x.cps.toList lo hi) λl=>ret (.str ⟨l.toArray⟩)))
 |t{l}:Lj lo hi (.tup l) (hY lo λi=>(match hi with
  | .none=>λJ Q=>∃k:Nat,i=k/\k<=l.length/\l.length<=cL/\Q (.tup (l.drop k)) J
  |_=>fc))
 |l{q:MV}:G4 q->Lj lo hi q (dj (itemsOf q) λl=>dj (cut l lo hi) newList)
 |n{q:MV}:Lj lo hi q fc
def slk(o lo h:MV):Lj lo h o (slice o lo h):=by
 unfold slice;cases o<;>first|exact .s|exact .t|exact .n|exact .l ai
def PX(s:Shared)(v:Value):Prop:=∃T id,s.TypeIs v T/\typeLookup (.type T) "__getitem__" =Pure.pure (some (.builtin id))
def X_{Q:MV->MH->Prop}{G:Value->Prop}(r:aF S W hi vh)(e:(match hi with| .none=>k|_=>fc) J Q)(f:k J Q->G .none):G vh:=by
 cases hi with
 |none=>exact r▸f e
 |_=>exact az e
def Lk{lo:MV}(R:Rel S W J s.heap)(b:aF S W lo vl)(c:aF S W hi v)(h:s.heap.IsSliceOf sl vl v .none):aF S W o vo->slice o lo hi J Q->
  PX s vo/\WP S A (getItem vo (.ref sl)) (Lq S W s Q) s:=
 (slk o lo hi).casesOn
  (λr e=>Is.casesOn r ⟨⟨"str",_,typeIs_str _ _ _,F.slot_str_getitem.lookup⟩,have e:=hA e;AR R b c h e.1 e.2⟩)
  (λ{l} r e=>⟨Sq.casesOn r λa Z Z=>⟨"tuple",_,⟨_,R.fz a,rfl⟩,slot_tuple_getitem.lookup⟩,(ek e b).casesOn (λ{i t} e=>X_ (G:=λv=>s.heap.IsSliceOf sl (.int i t) v .none->_) c e λe h=>e.elim λk e=>Hp R r (e.1▸h) e.2.1 e.2.2.1 e.2.2.2) h⟩)
  (λi r e=>(Dk R i r e).elim λl z=>⟨z.1.casesOn λH Z Z=>⟨"list",_,(IsL.list H).typeIs,slot_list_getitem.lookup⟩,Ho R z.1 b c h z.2⟩)
  λZ e=>az e
namespace FF
def gq:Slot "function" "__getattribute__" "object.__getattribute__" :=
 .of (owner:= "object") (n:= "__getattribute__") (by rw[typeLookup_type];kernel_rfl) (by decide+kernel) (by decide+kernel) (by decide+kernel)
  (by first|exact .inl (by decide+kernel)|exact .inr (by decide+kernel)) (by rw[isSubtype_type];kernel_rfl)
def Hq:entryFor table "object.__getattribute__" =some Builtin.«object.__getattribute__»:=entryFor_of_tree (by kernel_rfl)
def Hr:typeLookup (.type "function") "__class__" =Pure.pure (some (.builtin "object.__class__")):=by rw[typeLookup_type];kernel_rfl
def Dn:isSubtype (.type "function") (.type (".".intercalate ("object.__class__".cutAt '.').dropLast))=Pure.pure true:=by
 kernel_rfl
def Ll(a b:Value):argsOk "object.__getattribute__" ⟨[a,b],[]⟩:=by unfold argsOk;kernel_rfl
def Dp:isSubtype (.type "function") (.type "tuple")=Pure.pure false:=by rw[isSubtype_type];kernel_rfl
end FF
section
variable{os:OsState}
def xb{R:Result->Shared->Prop}(b:h.get? a=some o)(c:o.cls= .type "function")(e:R (.ok (.ret (.type "function"))) ⟨h,g,d,t,os⟩):
  codeAny (model prog w) A (Code.call (.builtin "getset_descriptor.__get__") ⟨[.builtin "object.__class__",.ref a,.type "function"],[]⟩) R ⟨h,g,d,t,os⟩:=by
 have f:(⟨h,g,d,t,os⟩:Shared).TypeIs (.ref a) "function" :=⟨_,b,c⟩;have H:=F.typeOf_object_class;have i:=FF.Dn;refine codeAny_call_builtin F.slot_gs_get.plain F.entry_gs_get (F.slot_gs_get.check _ _ _ _ _ _ _ _ H (F.args_gs_get _ _ _) ?_)
 repeat (any_goals(first|assumption|wp_step))
 refine⟨Code.quiet_builtin _ (by decide+kernel),codeAny_builtin F.entry_object_class ?_⟩
 repeat (any_goals(first|assumption|wp_step))
def uf(H:h.get? a=some o)(b:o.cls= .type "function")(c:Q (.done (.ret (.type "function"))) ⟨h,g,d,t,os⟩):
  wpAny (model prog w) A (Builtin.«object.__getattribute__» ⟨[.ref a,.str "__class__" tk],[]⟩) Q E ⟨h,g,d,t,os⟩:=by
 have e:(⟨h,g,d,t,os⟩:Shared).TypeIs (.ref a) "function" :=⟨_,H,b⟩;have f:=FF.Hr;have i:=F.typeOf_object_class;have j:=F.slot_gs_get.lookup;have k:=F.slot_gs_set.lookup
 repeat (any_goals(first|assumption|wp_step))
 refine xb H b ?_
 repeat (any_goals(first|assumption|wp_step))
def vM{R:Result->Shared->Prop}(H:h.get? a=some o)(b:o.cls= .type "function")(c:R (.ok (.ret (.type "function"))) ⟨h,g,d,t,os⟩):
  codeAny (model prog w) A (Code.call (.builtin "object.__getattribute__") ⟨[.ref a,.str "__class__" tk],[]⟩) R ⟨h,g,d,t,os⟩:=
 codeAny_call_builtin FF.gq.plain FF.Hq (FF.gq.check _ _ _ _ _ _ _ _ (show(⟨h,g,d,t,os⟩:Shared).TypeIs (.ref a) "function" from⟨_,H,b⟩) (FF.Ll _ _) (uf H b c))
def y7(H:h.get? a=some o)(b:o.cls= .type "function")(c:Q (.type "function") ⟨h,g,d,t,os⟩):wpAny (model prog w) A (getAttrBy (.ref a) (.str "__class__" tk) false) Q E ⟨h,g,d,t,os⟩:=by
 have e:(⟨h,g,d,t,os⟩:Shared).TypeIs (.ref a) "function" :=⟨_,H,b⟩;have f:=FF.gq.lookup;have i:=FF.gq.bind (.ref a)
 repeat (any_goals(first|assumption|wp_step))
 refine vM H b ?_
 repeat (any_goals(first|assumption|wp_step))
def vN(H:h.get? a=some o)(b:o.cls= .type "function")(c:Q (some (.type "function")) ⟨h,g,d,t+1,os⟩):wpAny (model prog w) A (getAttr? (.ref a) "__class__") Q E ⟨h,g,d,t,os⟩:=by
 repeat (any_goals(first|assumption|with_reducible apply y7 H b|wp_step))
def kJ{T:String}{D:Int}{e:Tok}{Q:Fin->Shared->Prop}(H:h.get? a=some o)(b:o.cls= .type "function")(f:(Value.type "function" ==Value.type T)=false)(i:typeOf (.type T)=Pure.pure (.type "type"))
  (c:isSubtype (.type "function") (.type T)=Pure.pure false)(j:Q (.done (.ret (.bool false))) ⟨h,g,d,t+1,os⟩):
  wpAny (model prog w) A (Builtin.«isinstance.nested» ⟨[.ref a,.type T,.int D e],[]⟩) Q E ⟨h,g,d,t,os⟩:=by
 have k:(⟨h,g,d,t,os⟩:Shared).TypeIs (.ref a) "function" :=⟨_,H,b⟩
 repeat (any_goals(first|assumption|with_reducible apply vN H b|wp_step))
end
section
variable{s:Shared}
def AS:∀(x:MV){v},aF S W x v->plainIs v .none=true/\(v==Value.none)=isNone x
 |.none=>λr=>r▸⟨rfl,rfl⟩
 |.bool _=>λr=>r▸⟨rfl,rfl⟩
 |.fn _=>λr=>r▸⟨rfl,rfl⟩
 |.int _=>λr=>Ii.casesOn r ⟨rfl,rfl⟩
 |.str _=>λr=>Is.casesOn r ⟨rfl,rfl⟩
 |.tup _=>λr=>Sq.casesOn r λZ Z Z=>⟨rfl,rfl⟩
 |.aQ _=>λr=>Sq.casesOn r λZ Z Z=>⟨rfl,rfl⟩
 |.obj _ _=>λr=>Ob.casesOn r λZ Z Z Z Z=>⟨rfl,rfl⟩
 |.lst _=>λr=>Rf.casesOn r λZ=>⟨rfl,rfl⟩
 |.iD _=>λr=>Rf.casesOn r λZ=>⟨rfl,rfl⟩
 |.dZ _ _=>λr=>Sd.casesOn r λZ Z Z Z Z=>⟨rfl,rfl⟩
def xW(R:Rel S W J s.heap)(r:aF S W x v)(rb:aF S W b vb)(k:Bool->Bool)(e:(match b with| .none=>ret (k (isNone x))|_=>fc) J Q):Value.none=vb/\plainIs v .none=true/\Q (k (v==Value.none)) J:=by
 cases b with
 |none=>exact⟨rb,(AS x r).1,(AS x r).2.symm▸e⟩
 |_=>exact az e
def mT{o:CmpOp}(h:f3 A d)(R:Rel S W J s.heap)(r:aF S W a va)(rb:aF S W b vb)(e:compare o a b J Q):
  WP S A (compareOp o va vb) (mR S W s Q) s:=by
 cases o with
 |Lt=>exact(ek e r).casesOn λe=>(ek e rb).casesOn λe=>PyProof.Rows.lt_int (.here R e)
 |LtE=>exact(ek e r).casesOn λe=>(ek e rb).casesOn λe=>PyProof.Rows.le_int (.here R e)
 |Gt=>exact(ek e r).casesOn λe=>(ek e rb).casesOn λe=>PyProof.Rows.gt_int (.here R e)
 |GtE=>exact(ek e r).casesOn λe=>(ek e rb).casesOn λe=>PyProof.Rows.ge_int (.here R e)
 |Eq=>exact Lf h R r rb e
 |NotEq=>exact(Lf (Q:=λb=>Q !b) h R r rb e).mono λq=>q.casesOn λ{_ _ b _} f R e=>.mk f R (Bool.not_not b▸e)
 |In=>exact tK (g:=true) h R r rb e
 |NotIn=>exact(tK (g:=false) (Q:=λb=>Q !b) h R r rb e).mono λq=>q.casesOn λ{_ _ b _} f R e=>.mk f R (Bool.not_not b▸e)
 |Is=>exact have e:=xW R r rb id e;e.1▸wpAny_is_plain e.2.1 (.here R e.2.2)
 |IsNot=>exact have e:=xW R r rb not e;e.1▸wpAny_isNot_plain e.2.1 (.here R e.2.2)
inductive AU(S:aW)(W:Wd)(h:Heap)(i:Nat)(l:List (Str×MV)):Value->Prop
 |mk{a mQ}:W.ls[i]?=some a->W.fz a=none->h.DictOf (strKind pw S.w) a mQ->mQ.map (·.1)=l.map (·.1)->aC S W (l.map (·.2)) (mQ.map (·.2))->AU S W h i l (.ref a)
inductive RdD(S:aW)(W:Wd)(h:Heap)(i:Nat)(P:List (Str×MV)->Prop)(v:Value):Prop
 |mk{l}:AU S W h i l v->P l->RdD S W h i P v
def hR.PY(H:W.ls[i]?=some a)(r:hR S W h a (.dict l)):AU S W h i l (.ref a):=by
 cases r with
 |dict p q r t u=>exact .mk H p (Heap.dictOf_iff.2 ⟨_,q,r⟩) t u
def Rel.Ya(R:Rel S W J h)(r:Rf W.ls i v)(e:kv i J Q):RdD S W h i (λl=>Q l J) v:=
 (XY e).elim λZ q=>.mk (Rf.casesOn r λH=>(R.cell H q.1).PY H) q.2
def Rel.Yb(R:Rel S W J h)(n:W.fz a=none):(a==sysModules)=false:=beq_eq_false_iff_ne.2 λq=>R.sys.elim λZ e=>fj n (q▸e)
def Dq(R:Rel S W J s.heap)(e:Q (.iD J.length) (J++[.dict []])):WP S A (PySem.newDict #[]) (Lq S W s Q) s:=by
 refine wpAny_newObj_type ?_ aZ;have z:=fT s.heap;have k:∀{b ob},s.heap.get? b=some ob->(s.heap.push {cls:=.type "dict",data:=.dict #[]}).get? b=some ob:=fU;exact(Heap.dictOf_iff.1 (Heap.DictOf.new s.heap)).elim λo q=>.mk (m:=.iD J.length) (.mk (xT z k) ⟨rfl,rfl,rfl⟩) (R.KP (R.ue z) k (.dict (l:=[]) (R.qp z) q.1 q.2 rfl rfl)) (Rf.mk (Wd.add_get R.len _)) e
def AV{l:List (Str×Value)}(h:k∉l.map (·.1)):l.map (λa=>if a.1=k then(a.1,v)else a)=l:=map_store_of_not_mem l k v h
def y8{k:Str}(h:p.1∉l.map (·.1)):PySem.stored (p::l) k v=if p.1=k then(p.1,v)::l else p::PySem.stored l k v:=by
 unfold PySem.stored;by_cases q:p.1=k
 ·rw[any_cons,bA q,Bool.true_or,aO rfl,aO q,map_cons,aO q,AV (q▸h)]
 ·rw[any_cons,decide_eq_false q,Bool.false_or];refine rX (bc q) ?_;refine rX map_cons ?_;refine rX (bc q) ?_;split<;>rfl
abbrev Yc(S:aW)(W:Wd)(k:List (Str×Value))(l:List (Str×MV)):Prop:=k.map (·.1)=l.map (·.1)/\aC S W (l.map (·.2)) (k.map (·.2))
theorem oq(k:Str)(r:aF S W m v):∀{c:List (Str×Value)}{l:List (Str×MV)},(c.map (·.1)).Nodup->Yc S W c l->Yc S W (PySem.stored c k v) (stored l k m)
 |[],[]=>λZ Z=>⟨rfl,.one r⟩
 |[],_::_=>λZ q=>nomatch q.1
 |_::_,[]=>λZ q=>nomatch q.1
 |p::c,e::l=>λn q=>by
  have d:p.1=e.1/\c.map (·.1)=l.map (·.1):=List.cons.inj q.1;refine rX (y8 (mH n).1) ?_;show Yc S W _ (match seq e.1 k with|true=>(e.1,m)::l|false=>e::stored l k m);rw[<-lj];refine rX (d.1).symm ?_;by_cases z:p.1=k
  ·exact rX (aO z) (rX (beq_iff_eq.2 z) (⟨congrArg _ d.2,.mk r (Cs.casesOn (motive:=λx Z=>x=_->aC S W (l.map (·.2)) (c.map (·.2))) q.2 (λZ b q=>(List.cons.inj q).2▸b) rfl)⟩))
  ·exact rX (bc z) (rX (beq_eq_false_iff_ne.2 z) (⟨congr (congrArg _ d.1) (oq k r (mH n).2 ⟨d.2,Cs.casesOn (motive:=λx Z=>x=_->aC S W (l.map (·.2)) (c.map (·.2))) q.2 (λZ b q=>(List.cons.inj q).2▸b) rfl⟩).1,.mk (Cs.casesOn (motive:=λx Z=>x=p.2::c.map (·.2)->aF S W e.2 p.2) q.2 (λa Z q=>(List.cons.inj q).1▸a) rfl) (oq k r (mH n).2 ⟨d.2,Cs.casesOn (motive:=λx Z=>x=_->aC S W (l.map (·.2)) (c.map (·.2))) q.2 (λZ b q=>(List.cons.inj q).2▸b) rfl⟩).2⟩))
def Dr(R:Rel S W J s.heap)(o:AU S W s.heap i l vo)(p:aF S W m v)(q:l.length<1000/\Q (J.set i (.dict (stored l k m)))):
  WP S A (setItem vo (.str k t) v) (λZ=>Lu S W s Q) s:=
 o.casesOn λ{a b} e f j n c=>
 have H:b.length=l.length:=by have:=congrArg List.length n;rwa[cX,cX]at this
 have g:=oq k p (j.elim λZ q=>q.elim λZ q=>q.elim λZ q=>q.2.2.2.2.2) ⟨n,c⟩
 wpAny_setItem_pairs (mS k t) j (λZ d h=>(Heap.dictOf_iff.1 d).elim λZ w=>.mk (.mk (xU (get_mem e) h w.1) ⟨rfl,rfl,rfl⟩) (R.upd e f h (.dict f w.1 w.2 g.1 g.2)) q.2) (H▸ez (a_ (Nat.lt_trans q.1 (by decide))))
def PZ(R:Rel S W J s.heap)(c:AU S W s.heap i l vo)(e:Q ((fN l k).getD .none) J):
  WP S A (PySem.call (.builtin "dict.get") [vo,.str k t]) (Lq S W s Q) s:=
 c.casesOn λ{a b} _ d H f h=>
 call_meetsIn F.slot_dict_get H.mapOf.typeIs F.entry_dict_get (F.args_dict_get_2 _ _) (meets_dict_get (strKind pw S.w) a (mS k t) (R.Yb d)) ⟨_,H.mapOf,.same R ((mm k b h).getD rn) (f.symm▸AQ k l▸e)⟩
def P0(R:Rel S W J s.heap)(c:FQ S W s.heap ks ms vo)(d:aF S W m v)(e:Q ((look ks ms k).getD m) J):
  WP S A (PySem.call (.builtin "dict.get") [vo,.str k t,v]) (Lq S W s Q) s:=
 c.casesOn λ{a b} H f g h=>
 call_meetsIn F.slot_dict_get H.mapOf.typeIs F.entry_dict_get (F.args_dict_get_3 _ _ _) (meets_dict_get_default (strKind pw S.w) a (mS k t) f v) ⟨_,H.mapOf,.same R ((mm k b h).getD d) (g.symm▸e)⟩
def y9(R:Rel S W J s.heap)(H:FQ S W s.heap ks ms vo)(e:ask (look ks ms k) J Q):
  WP S A (getItem vo (.str k t)) (Lq S W s Q) s:=
 H.casesOn λ{_ a} b _ c h=>(kl e).elim λZ e=>((mm k a h).get (c.symm▸e.1)).elim λZ g=>
 wpAny_getItem_of (mS k t) b.mapOf g.1 (.same R g.2 e.2)
end
inductive pR:MV->Ty->Bool->Prop
 |tt{l}:pR (.tup l) .tuple true
 |ft{f}:8<=f->f<=19->pR (.fn f) .tuple false
 |nt:pR .none .tuple false
 |nb:pR .none .bool false
 |ii{i}:pR (.int i) .int true
 |ib{i}:pR (.int i) .bool false
 |ss{i}:pR (.str i) .str true
 |sb{i}:pR (.str i) .bool false
 |bb{i}:pR (.bool i) .bool true
def Yd:∀(m:MV) (t:Ty) {b},zY m t=some b->pR m t b:=by
 intro m t b e;cases m with
 |tup l=>cases t with|tuple=>obtain rfl:=aj e;exact .tt|_=>exact nn e
 |none=>cases t with|tuple=>obtain rfl:=aj e;exact .nt|bool=>obtain rfl:=aj e;exact .nb|_=>exact nn e
 |int l=>cases t with|int=>obtain rfl:=aj e;exact .ii|bool=>obtain rfl:=aj e;exact .ib|_=>exact nn e
 |str l=>cases t with|str=>obtain rfl:=aj e;exact .ss|bool=>obtain rfl:=aj e;exact .sb|_=>exact nn e
 |bool l=>cases t with|bool=>obtain rfl:=aj e;exact .bb|_=>exact nn e
 |fn f=>
  cases t with
  |tuple=>
   replace e:(if 8<=f/\f<=19 then some false else none)=some b:=e;by_cases q:8<=f/\f<=19
   ·rw[aO q]at e;obtain rfl:=aj e;exact .ft q.1 q.2
   ·rw[bc q]at e;exact nn e
  |_=>exact nn e
 |_=>exact nn e
def P4(H:∃o,s.heap.get? (c5 f)=some o/\o.cls= .type "function")(e:Q (.bool false) {s with toks:=s.toks+1}):WP S A (PySem.call (.builtin "isinstance") [.ref (c5 f),.type "tuple"]) Q s:=
 call_isinstance (S:=λZ R s=>(∃o,s.heap.get? (c5 f)=some o/\o.cls= .type "function")/\R (.ok (.ret (.bool false))) {s with toks:=s.toks+1}) (λZ Z Z Z s a=>by
  obtain⟨h,g,d,t,os⟩:=s;obtain⟨⟨o,b,c⟩,i⟩:=a;exact isinstance_outer (kJ b c rfl (by kernel_rfl) FF.Dp i)) ⟨H,e⟩
def SS(S:aW):Prop:=∀f,8<=f->f<=19->∃o,S.h₀.get? (c5 f)=some o/\o.cls= .type "function"
def Ye(f:SS S)(R:Rel S W J s.heap)(r:aF S W m v)(e:zY m t=some b)(q:Q (.bool b) J):
  WP S A (PySem.call (.builtin "isinstance") [v,.type (tyName t)]) (Lq S W s Q) s:=
 (Yd m t e).casesOn
  (λr q=>Sq.casesOn r λa Z Z=>call_isinstance (isinstance_true (by kernel_rfl) (by rw[isSubtype_type];kernel_rfl)) ⟨⟨_,R.fz a,rfl⟩,.here R rb q⟩)
  (λh H r q=>r▸P4 ((f _ h H).elim λZ z=>⟨_,R.fz (R.base z.1),z.2⟩) (.same R rb q))
  (λr q=>r▸call_isinstance (isinstance_false_none rfl (by kernel_rfl) (by rw[isSubtype_type];kernel_rfl)) (.same R rb q))
  (λr q=>r▸call_isinstance (isinstance_false_none rfl (by kernel_rfl) (by rw[isSubtype_type];kernel_rfl)) (.same R rb q))
  (λr q=>Ii.casesOn r (call_isinstance (isinstance_true (by kernel_rfl) (by rw[isSubtype_type];kernel_rfl)) ⟨typeIs_int _ _ _,.here R rb q⟩))
  (λr q=>Ii.casesOn r (call_isinstance (isinstance_false_int rfl (by kernel_rfl) (by rw[isSubtype_type];kernel_rfl)) (.same R rb q)))
  (λr q=>Is.casesOn r (call_isinstance (isinstance_true (by kernel_rfl) (by rw[isSubtype_type];kernel_rfl)) ⟨typeIs_str _ _ _,.here R rb q⟩))
  (λr q=>Is.casesOn r (call_isinstance (isinstance_false_str rfl (by kernel_rfl) (by rw[isSubtype_type];kernel_rfl)) (.same R rb q)))
  (λr q=>r▸call_isinstance (isinstance_true (by kernel_rfl) (by rw[isSubtype_type];kernel_rfl)) ⟨PySem.typeIs_bool _ _,.here R rb q⟩) r q
def Yf{l:List MV}{j:Int}{P:Int->Prop}{i:Int}(e:sumOf (.int i::l)=some j)(k:∀{t},sumOf l=some t->P (i+t)):P j:=by
 dsimp only[sumOf]at e;cases z:sumOf l with
 |none=>rw[z]at e;exact nn e
 |some r=>rw[z]at e;obtain rfl:=aj e;exact k z
inductive FT(vs:List Value)(t:Int):Prop
 |mk(xs:List (Int×Tok)):xs.map (λp=>Value.int p.1 p.2)=vs->(xs.map (·.1)).sum=t->FT vs t
theorem ints_of:∀{l:List MV} {vs t},aC S W l vs->sumOf l=some t->FT vs t
 |[]=>λr e=>r▸aj e▸.mk [] rfl rfl
 |m::l=>λr e=>by
  cases m with
  |int i=>exact Yf e λz=>Cs.casesOn r λp q=>Ii.casesOn p λ{u}=>(ints_of q z).casesOn λxs a b=>.mk ((i,u)::xs) (congrArg (Value.int i u::·) a) (congrArg (i+·) b)
  |_=>exact nn e
def y_(xs:List (Int×Tok)):∀k,k<=xs.length->preSum (numAt xs.toArray) k=((xs.take k).map (·.1)).sum:=by
 intro m;induction m with
 |zero=>exact λZ=>by exact rX take_zero rfl
 |succ k i=>
  intro h;have H:numAt xs.toArray k=xs[k].1:=by simp[numAt,(dv h)]
  rw[preSum];refine rX (i (Nat.le_of_succ_le h)) ?_;refine rX take_add_one ?_;refine rX (dv h) ?_;refine rX H ?_;refine rX fD ?_;refine rX sum_append ?_;exact congrArg _ (Int.add_zero _).symm
def FT.arr{vs:Array Value}{t:Int}(q:FT vs.toList t):∃xs,vs=intItems xs/\preSum (numAt xs) xs.size=t:=
 q.casesOn λxs a b=>⟨xs.toArray,Array.ext' (ag a (by simp[intItems])),(y_ xs _ di).trans (rX (take_of_length_le di) (b))⟩
def vO{i:Int}(h:i.natAbs<10 ^ 100):i.natAbs.log2<1920:=by
 by_cases H:i.natAbs=0
 ·refine rX H ?_;decide
 ·exact(Nat.log2_lt H).2 (Nat.lt_trans h (by decide+kernel))
def P5(R:Rel S W J s.heap)(q:j6 S W s.heap l v)(e:newList l J Q):WP S A (PySem.call (.type "list") [v]) (Lq S W s Q) s:=
 have e:=lM e
 q.casesOn (λa h Z=>call_list_seq _ (.inl rfl) a rfl rfl (λZ Z k H=>.list R h (k _ _) H e) (h.size▸ez e.1))
  λb h Z=>call_list_seq _ (.inr rfl) b rfl rfl (λZ Z k H=>.list R h (k _ _) H e) (h.size▸ez e.1)
def P6(R:Rel S W J s.heap)(r:aF S W m v)(e:reprOf m=some x)(q:Q (.str x) J):WP S A (PySem.call (.builtin "repr") [v]) (Lq S W s Q) s:=by
 refine I λk=>?_;cases m with
 |none=>obtain rfl:=aj e;exact k (r▸P.repr_of_none (.same R gC q))
 |bool b=>obtain rfl:=aj e;exact k (r▸P.repr_of_bool (by cases b<;>exact .same R gC q))
 |int i=>
  replace e:(if i.natAbs<10 ^ 100 then some (Str.ofString (toString i))else none)=some x:=e;by_cases c:i.natAbs<10 ^ 100
  ·rw[aO c]at e;exact k (Ii.casesOn r (P.repr_of_int (vO c) (.same R gC (aj e▸q))))
  ·rw[bc c]at e;exact nn e
 |str i=>
  replace e:(if(reprText i).length<=cL then some (reprText i)else none)=some x:=e;by_cases c:(reprText i).length<=cL
  ·rw[aO c]at e;exact k (Is.casesOn r (P.repr_of_str (.same R gC (aj e▸q)) (ez c)))
  ·rw[bc c]at e;exact nn e
 |_=>exact nn e
def Lm(v:MV):M MV:=match v with
  | .str s=>ke (s.length<=cL) (ret (.int s.length))
  |v=>dj (itemsOf v) λl=>ret (.int l.length)
inductive Yg:MV->M MV->Prop
 |s{x:Str}:Yg (.str x) (ke (x.length<=cL) (ret (.int x.length)))
 |g{q}:Yg q (dj (itemsOf q) λl=>ret (.int l.length))
def lnk(m:MV):Yg m (Lm m):=by cases m<;>first|exact .s|exact .g
def Ln(R:Rel S W J s.heap):aF S W m v->Lm m J Q->WP S A (PySem.call (.builtin "len") [v]) (Lq S W s Q) s:=
 (lnk m).casesOn (λr e=>have e:=hA e;Is.casesOn r (P.len_str (by have:=KW e.1;lia) (.same R ri e.2)))
  λr e=>(R.items r e).casesOn λq e=>X1 R q e
def P7(a:Int):(if a<0 then-a else a)=(a.natAbs:Int):=if h:a<0 then(aO h).trans (Int.ofNat_natAbs_of_nonpos (Int.le_of_lt h)).symm else(bc h).trans (Int.natAbs_of_nonneg (Int.not_lt.1 h)).symm
def Ds(H:f3 A d)(R:Rel S W J s.heap)(r:aC S W ms vs)(e:builtin b ms J Q):WP S A (PySem.call (yJ b) vs) (Lq S W s Q) s:=by
 cases b with
 |len=>exact(ll (k:=Lm) e r).casesOn λr e=>Ln R r e
 |sum=>exact(ll e r).casesOn λr e=>qq e r λr e=>(R.r_ r e).casesOn λq e=>(kl e).elim λZ e=>q.casesOn λZ Z a c Z=>(ints_of c e.1).arr.elim λZ z=>sum_intListG H.handled (IsL.list (z.1▸a)) λf t t' h=>.keeps R (h _ _) ri (z.2.symm▸e.2)
 |max=>exact(K5 e r).casesOn λg r2 e=>(ek e g).casesOn λe=>(ek e r2).casesOn λe=>max_two_ints H.handled λf t h=>.keeps R (h _ _) (by split<;>exact ri) e
 |abs=>exact(ll e r).casesOn λr e=>(ek e r).casesOn λe=>call_abs_int λu t=>.same R (P7 _▸ri) e
 |int=>exact(ll e r).casesOn λr e=>(Df e r).casesOn λ{i} e=>call_int_bool (.same R (by cases i<;>exact ri) e)
 |str=>exact(ll e r).casesOn λr e=>(ek e r).casesOn λe=>have e:=hA e;P.str_of_int (vO e.1) (.same R gC e.2)
 |repr=>exact(ll e r).casesOn λr e=>(kl e).elim λZ e=>P6 R r e.1 e.2
 |list=>exact(ll e r).casesOn λr e=>(R.items r e).casesOn λq e=>P5 R q e
inductive Hs(S:aW)(Y:List Addr)(W:Wd)(s:Shared)(T:Heap->Prop)(Q:MV->MH->Prop)(J:MH)(v:Value)(s':Shared):Prop
 |mk{W' m}:dt Y W s W' s'->Rel S W' J s'.heap->aF S W' m v->T s'.heap->Q m J->Hs S Y W s T Q J v s'
inductive ItN(S:aW)(A:Around)(tg:Expr)(it:Addr)(Y:List Addr)(W:Wd)(s:Shared)(T:Heap->Prop)(Q:MV->MH->Prop)(J:MH):Option Value->Shared->Prop
 |mk{v s1}:WP S A (letOwnedTupleGo tg (.ref it) v) (λZ=>Hs S Y W s T Q J v) s1->ItN S A tg it Y W s T Q J (some v) s1
inductive P8(S:aW)(Y:List Addr)(W:Wd)(s:Shared)(Q:Unit->MH->Prop)(J:MH):Option Value->Shared->Prop
 |mk{s'}:(∀{a o},a∉Y->s.heap.get? a=some o->s'.heap.get? a=some o)->Sh s s'->Rel S W J s'.heap->Q () J->P8 S Y W s Q J none s'
abbrev gr(S:aW)(A:Around)(t:Expr)(a:Addr)(Y:List Addr)(k:Wk)(n:Nat)(w:Wd)(T:Nat->Heap->Prop):Prop:=(∀{i h h'},T i h->(∀{b},b∈Y->∀o,h.get? b=some o->h'.get? b=some o)->T i h')/\(∀{i W J s Q},Sub w W->i<n->T i s.heap->Apart Y W s.heap->Rel S W J s.heap->k.item i J Q->WP S A (pyNext (.ref a)) (ItN S A t a Y W s (T (i+1)) Q J) s)/\(∀{W J s Q},Sub w W->T n s.heap->Apart Y W s.heap->Rel S W J s.heap->k.lC J Q->WP S A (pyNext (.ref a)) (P8 S Y W s Q J) s)/\∀{i s}{Q:Value->Shared->Prop},T i s.heap->Q (.ref a) s->WP S A (pyIter (.ref a)) Q s
def SrcL(S:aW)(W:Wd)(l:Addr)(k:Src):Prop:=match k with
 | .vals xs=>Sq W.fz "list" (aC S W xs) xs.length (.ref l)
 | .live a _=>W.ls[a]?=some l
section
variable{T:Nat->Heap->Prop}
def SrcL.mono(x:Sub W W')(q:SrcL S W l k):SrcL S W' l k:=k.casesOn (λZ q=>Sq.mono x.fz (aC.mono x _) q) (λZ Z q=>x.ls q) q
inductive SU(S:aW)(W:Wd)(h:Heap)(l:Addr)(i:Nat)(P:MV->Prop):Prop
 |mk{m v vs n}:IsL h l vs n->vs[i]?=some v->aF S W m v->P m->SU S W h l i P
inductive SW(h:Heap)(l:Addr)(k:Nat)(P:Prop):Prop
 |mk{vs n}:IsL h l vs n->vs[k]?=none->P->SW h l k P
def Dt{vs:Array Value}(e:vs.size=k):vs[k]?=none:=Array.getElem?_eq_none (bx e)
def FU(R:Rel S W J h)(H:W.ls[a]?=some l)(e:TJ a n J Q):∃xs,oh S W h a xs (.ref l)/\xs.length=n/\Q xs J:=
 (R.r_ (Rf.mk H) e).casesOn λq e=>have e:=hA e;⟨_,q,e.1,e.2⟩
def oh.at(c:W.ls[a]?=some l)(q:oh S W h a xs (.ref l)):∃vs n,IsL h l vs n/\aC S W xs vs.toList:=
 oh.casesOn (motive:=λv Z=>v=.ref l->_) q (λZ Z H b Z e=>Value.ref.inj e▸⟨_,_,H,b⟩) rfl
def SrcL.seq(R:Rel S W J h)(q:Sq W.fz "list" (aC S W xs) xs.length (.ref l)):∃vs n,IsL h l vs n/\aC S W xs vs.toList:=
 Sq.casesOn (motive:=λv Z=>v=.ref l->_) q (λH a Z e=>Value.ref.inj e▸⟨_,_,R.fz H,a⟩) rfl
def za(R:Rel S W J h)(q:SrcL S W l k)(e:k.item i J Q):SU S W h l i (λm=>Q m J):=by
 cases k with
 |vals xs=>exact(SrcL.seq R q).elim λZ z=>z.elim λZ z=>(kl e).elim λZ e=>(z.2.xV e.1).elim λZ g=>.mk z.1 g.1 g.2 e.2
 |live a n=>exact(FU R q e).elim λZ e=>(e.1.at q).elim λZ z=>z.elim λZ z=>(kl e.2.2).elim λZ e=>(z.2.xV e.1).elim λZ g=>.mk z.1 g.1 g.2 e.2
def zb(R:Rel S W J h)(q:SrcL S W l k)(e:k.lC J Q):SW h l k.len (Q () J):=by
 cases k with
 |vals xs=>exact(SrcL.seq R q).elim λZ z=>z.elim λZ z=>.mk z.1 (Dt z.2.size) e
 |live a n=>exact(FU R q e).elim λZ e=>(e.1.at q).elim λZ z=>z.elim λZ z=>.mk z.1 (Dt (z.2.size.trans e.2.1)) e.2.2
set_option backward.match.sparseCases true in
def mU{o:Obj}(H:s.heap.get? it=some o)(h:o.cls= .type n)(b:["enumerate","zip","dict_itemiterator","dict_reverseitemiterator","odict_iterator","itertools.zip_longest","itertools.pairwise"].contains n=false)(e:Q () s):
  WP S A (letOwnedTupleGo tg (.ref it) v) Q s:=by
 have k:∀(v:Value),WP S A (do
   let(.ref r,.ref a):=(Value.ref it,v)|return
   let o<-load r
   match o.cls,o.data with
   | .type n,.fields vs=>
    if["enumerate","zip","dict_itemiterator","dict_reverseitemiterator","odict_iterator","itertools.zip_longest","itertools.pairwise"].contains n&&vs[0]?==some (rawInt a)then
     rule "for.unpacks-the-owned-tuple"
     updateField r 0 .none
   |_,_=>Pure.pure ():Sem Unit) Q s:=by
  intro v
  cases v<;>first
   |exact ao e
   |skip
  refine ae (wpAny_load H ?_);obtain⟨c,d,D,f⟩:=o;replace h:c= .type n:=h;subst h
  cases D<;>first
   |exact ao e
   |skip
  dsimp only;refine rX b ?_;exact ao e
 cases tg<;>first
  |exact ao e
  |exact k v
def AW{b:Addr}(m:a∉[b]):a≠b:=λq=>m (q▸lB rfl)
def Lo(x:Heap.SameBut it h h'){o:Obj}(m:b∉[it])(e:h.get? b=some o):h'.get? b=some o:=x.extBut b o (AW m) e
def Hs.one(R:Rel S W J s.heap)(a:Apart [it] W s.heap)(x:Heap.SameBut it s.heap h')(h:h'.get? it=some oi)(r:aF S W m v)(H:T (i+1) h')(e:Q m J):Hs S [it] W s (T (i+1)) Q J v {s with heap:=h',toks:=t}:=
 .mk (.mk (og (Lo x) λm z=>fj (d5 m▸z) h) ⟨rfl,rfl,rfl⟩) (R.apart a (Lo x)) r H e
def P8.one(R:Rel S W J s.heap)(A:Apart [it] W s.heap)(x:Heap.ExtBut it s.heap h')(e:Q () J):P8 S [it] W s Q J none {s with heap:=h'}:=
 have k{a o}(m:a∉[it])(e:s.heap.get? a=some o):=x a o (AW m) e
 .mk k ⟨rfl,rfl,rfl⟩ (R.apart A k) e
def zc(hh:A.handled=none)(q:SrcL S bG l k):gr S A tg it [it] (.plain k) k.len bG (λi h=>h.IsListIter it l i):=⟨λst k=>st.at λo e=>k (lB rfl) o e,
 λ{_ _ _ s _} sub d st b R e=>(za R (q.mono sub) e).casesOn λH c r e=>
  wpAny_pyNext_list_item st (IsL.list H) c λf a same=>a.elim λZ z=>.mk (mU z.1 z.2.1 rfl (.one (T:=λi h=>h.IsListIter it l i) R b same z.1 r a e)),
 λsub st b R e=>(zb R (q.mono sub) e).casesOn λH c e=>wpAny_pyNext_list_end hh st (IsL.list H) c λZ x=>.one R b x e,
 λst e=>wpAny_pyIter_listiter st e⟩
def AX(hh:A.handled=none)(H:bG.fz l=some (so "tuple" vs c))(d:aC S bG xs vs.toList):
  gr S A tg it [it] (.plain (.vals xs)) xs.length bG (λi h=>h.IsTupleIter it l i):=⟨λst k=>st.at λo e=>k (lB rfl) o e,
 λ{_ _ _ s _} sub f st b R e=>(kl e).elim λZ e=>((d.mono sub xs _).xV e.1).elim λZ g=>
  wpAny_pyNext_tuple_item st ⟨_,R.fz (sub.fz H),rfl,c,rfl⟩ g.1 λj a same=>a.elim λZ z=>.mk (mU z.1 z.2.1 rfl (.one (T:=λi h=>h.IsTupleIter it l i) R b same z.1 g.2 a e.2)),
 λsub st b R e=>wpAny_pyNext_tuple_end hh st ⟨_,R.fz (sub.fz H),rfl,c,rfl⟩ (Dt d.size) λZ x=>.one R b x e,
 λst e=>wpAny_pyIter_tupleiter st e⟩
def Ht(h:i<n):(fE n)[i]?=some (.int i):=rX hW (rX (List.getElem?_range h) rfl)
def xc(hh:A.handled=none):
  gr S A tg it [it] (.plain (.vals (fE n))) n bG (λi h=>IsRangeIter h it (i:Nat) ((n:Int)-(i:Nat)) 1):=⟨λst k=>k (lB rfl) _ st,
 λ{i W J s Q} sub H st b R e=>(kl e).elim λZ e=>
  wpAny_pyNext_range_item st (Int.sub_pos_of_lt (Int.ofNat_lt.2 H)) λc a same=>.mk (mU a rfl rfl
   (.one (T:=λi h=>IsRangeIter h it (i:Nat) ((n:Int)-(i:Nat)) 1) R b same a ri (rX (show(n:Int)-((i+1:Nat):Int)=(n:Int)-(i:Int)-1 from(congrArg (λx=>(n:Int)-x) (Int.natCast_succ i)).trans (Int.sub_sub _ _ _).symm) (a)) (aj (ag (Ht H) e.1)▸e.2))),
 λsub st b R e=>wpAny_pyNext_range_end hh st (Int.le_of_eq (Int.sub_self _)) λZ x=>.one R b x e,
 λst e=>wpAny_pyIter_rangeiter st e⟩
end
section
variable{h:Heap}
def Hs.pair{T:Heap->Prop}(R:Rel S W J s.heap)(a:Apart Y W s.heap)(k:∀{b ob},b∉Y->s.heap.get? b=some ob->h'.get? b=some ob)(l:∀{b},b∈Y->h'.get? b≠none)
  (H:h'.get? s.heap.objs.size=some (so "tuple" #[v1,v2] 0))(r:aF S W m1 v1)(r2:aF S W m2 v2)(c:T h')(q:Q (.tup [m1,m2]) J):Hs S Y W s T Q J (.ref s.heap.objs.size) {s with heap:=h',toks:=t}:=
 have z:=fT s.heap
 .mk (m:=.tup [m1,m2]) (.mk (xS (R.qp z) z (λe m=>k m e) (AM k l)) ⟨rfl,rfl,rfl⟩) (R.FO (R.qp z) (R.ue z) (λe q=>k (a.not q) e) H) (Sq.mk jI (.mk (r.mono (gB (R.qp z)) _ _) (.mk (r2.mono (gB (R.qp z)) _ _) rfl)) (show(2:Nat)<=1000000 by decide)) c q
def AY(h:a∉[b,c]):a≠b/\a≠c:=⟨λq=>h (q▸eE),λq=>h (q▸fg eE)⟩
def ot{P:α->Prop}(h:a∈[b,c])(p:P b)(q:P c):P a:=(hH h).elim (λe=>e▸p) λh=>d5 h▸q
def cD{o:Obj}(e:x=some o):x≠none:=λq=>fj q e
def Lp(a:∀b o,b≠e->b≠it->h.get? b=some o->h1.get? b=some o)(H:Heap.SameBut e h1 h2){o:Obj}(m:b∉[e,it])(q:h.get? b=some o):h2.get? b=some o:=H.extBut b o (AY m).1 (a b o (AY m).1 (AY m).2 q)
def Lr(e a:Addr)(T:Nat->Heap->Prop)(i:Nat)(h:Heap):Prop:=(∃o,IsEnum h e a (i:Nat) o)/\T i h
def zd(hh:A.handled=none)(c:e≠it)(q:SrcL S bG l k):
  gr S A (.Tuple elts x1 pos) e [e,it] (.enum k) k.len bG (Lr e it λi h=>h.IsListIter it l i):=⟨λst k=>⟨st.1.elim λZ z=>⟨_,k eE _ z⟩,st.2.at λo e=>k (fg eE) o e⟩,
 λ{i W J s Q} sub B st g R z=>st.1.elim λt d=>(za R (q.mono sub) z).casesOn λj n r z=>
  wpAny_pyNext_enum_item d st.2 (IsL.list j) n c λp a1 a2 u C v=>.mk (wpAny_letOwnedTupleGo_enum a1 λf a H=>
   a2.elim λD w=>.pair R g (Lp v H) (λm=>ot (P:=λb=>f.get? b≠none) m (cD a) (cD (H.extBut _ _ (Ne.symm c) w.1))) (H.extBut _ _ (Nat.ne_of_gt (Heap.lt_size d)) u) ri r ⟨⟨_,a⟩,a2.extBut H.extBut (Ne.symm c)⟩ z),
 λsub st g R z=>st.1.elim λZ d=>(zb R (q.mono sub) z).casesOn λj n z=>wpAny_pyNext_enum_end hh d st.2 (IsL.list j) n λy x=>
  have k{b o}(m:b∉[e,it])(z:Heap.get? _ b=some o):y.get? b=some o:=x b o (AY m).2 z
  .mk k ⟨rfl,rfl,rfl⟩ (R.apart g k) z,
 λst z=>st.1.elim λZ d=>wpAny_pyIter_enum d z⟩
def Yh(x:Str)(i:Nat)(v:Value):Prop:=∃c u,x.cps[i]?=some c/\v= .str ⟨#[c]⟩ u
def pV(d:e≠it)(D:Draws pw S.w A.in1 it [it] x.cps.size (Yh x) T):
  gr S A (.Tuple elts x1 pos) e [e,it] (.enum (.vals (signs x))) x.cps.size bG (Lr e it T):=⟨λst k=>⟨st.1.elim λZ z=>⟨_,k eE _ z⟩,D.frame _ _ _ st.2 λb j o q=>k (fg j) o q⟩,
 λ{i W J s Q} sub t st l R z=>st.1.elim λy f=>(kl z).elim λm z=>
  wpAny_pyNext_enum_itemD D f st.2 t d (λm=>d (d5 m)) λv n L B a1 a2 C N E=>.mk (wpAny_letOwnedTupleGo_enum a1 λg a H=>
   have p:=D.frame _ _ _ a2 λb j o q=>H.extBut b o (d5 j▸Ne.symm d) q
   have r:=B.elim λc w=>w.elim λu w=>(by
    have:=z.1;unfold signs at this;rw[hW,Array.getElem?_toList,w.1]at this;exact aj this)▸w.2▸gC
   (D.live _ _ p).elim λZ w=>.pair R l (Lp E H) (λm=>ot (P:=λb=>g.get? b≠none) m (cD a) (cD w)) (H.extBut _ _ (Nat.ne_of_gt (Heap.lt_size f)) C) ri r ⟨⟨_,a⟩,p⟩ z.2),
 λsub st l R z=>st.1.elim λZ f=>wpAny_pyNext_enum_endD D f st.2 λG x=>
  have k{b o}(m:b∉[e,it])(z:Heap.get? _ b=some o):G.get? b=some o:=x b o (AY m).2 z
  .mk k ⟨rfl,rfl,rfl⟩ (R.apart l k) z,
 λst z=>st.1.elim λZ f=>wpAny_pyIter_enum f z⟩
abbrev aaF(z t T c d l L:Addr)(i:Nat)(h:Heap):Prop:=IsZip h z t T .none/\IsPair h t (.ref c) (.ref d)/\(∃a b,IsPair h T a b)/\h.IsListIter c l i/\h.IsListIter d L i
abbrev N5(z T t i a b:Addr):Prop:=b≠z/\b≠t/\b≠i/\b≠a
def n5(m:b∉[z,TI,TO,i1,i2]):N5 z TI TO i1 i2 b:=by
 simp only[mem_cons,not_or]at m;exact⟨m.1,m.2.2.1,m.2.2.2.1,m.2.2.2.2.1⟩
def Lv{P:α->Prop}(h:a∈[b,c,d,f,g])(p1:P b)(p2:P c)(p:P d)(i:P f)(j:P g):P a:=(hH h).elim (λe=>e▸p1) λh=>(hH h).elim (λe=>e▸p2) λh=>(hH h).elim (λe=>e▸p) λh=>ot h i j
def P9(R:Rel S W J h)(q:SrcL S W l k)(e:k.lC J Q):∃vs n,IsL h l vs n/\Q () J:=(zb R q e).casesOn λa Z c=>⟨_,_,a,c⟩
def AZ(hh:A.handled=none)(D:ZipApart z TI TO i1 i2 l1 l2)(q1:SrcL S bG l1 k)(q2:SrcL S bG l2 k'):
  gr S A (.Tuple elts x1 pos) z [z,TI,TO,i1,i2] (.zip k k') k.len bG (aaF z TI TO i1 i2 l1 l2):=⟨λst k=>⟨k (by simp) _ st.1,k (by simp) _ st.2.1,st.2.2.1.elim λa w=>w.elim λb w=>⟨a,b,k (by simp) _ w⟩,st.2.2.2.1.at λo e=>k (by simp) o e,st.2.2.2.2.at λo e=>k (by simp) o e⟩,
 λ{i W J s Q} sub hi st x R e=>st.2.2.1.elim λZ t=>t.elim λZ p=>(za R (q1.mono sub) e).casesOn λ{_ v _ _} y B L e=>(za R (q2.mono sub) e).casesOn λ{_ u _ _} C E N e=>
  wpAny_pyNext_zip_item D st.1 st.2.1 p st.2.2.2.1 st.2.2.2.2 (IsL.list y) (IsL.list C) B E λr a1 a2 T V X a6 G=>.mk (wpAny_letOwnedTupleGo_zip a1 λl f H=>
   have H:Heap.SameBut z r l:=H;have c:=H.extBut _ _ D.TIz (G _ _ D.TIz D.TITO D.TIi1 D.TIi2 st.2.1);have d:=H.extBut _ _ D.TOz a2;have g:=T.extBut H.extBut D.i1z;have j:=V.extBut H.extBut D.i2z
   g.elim λZ w1=>j.elim λZ w2=>.pair R x (λm e=>have n:=n5 m;H.extBut _ _ n.1 (G _ _ n.1 n.2.1 n.2.2.1 n.2.2.2 e)) (λm=>Lv (P:=λb=>l.get? b≠none) m (cD f) (cD c) (cD d) (cD w1.1) (cD w2.1))
    (H.extBut _ _ (Nat.ne_of_gt (Heap.lt_size st.1)) X) L N ⟨f,c,⟨_,_,d⟩,g,j⟩ e),
 λsub st x R e=>st.2.2.1.elim λZ t=>t.elim λZ p=>(zb R (q1.mono sub) e).casesOn λy B e=>(P9 R (q2.mono sub) e).elim λZ w=>w.elim λZ w=>
  wpAny_pyNext_zip_end hh D st.1 st.2.1 p st.2.2.2.1 st.2.2.2.2 (IsL.list y) (IsL.list w.1) (.inl B) λY same=>
  have k{b o}(m:b∉[z,TI,TO,i1,i2])(e:Heap.get? _ b=some o):Y.get? b=some o:=have n:=n5 m;same b o n.1 n.2.1 n.2.2.1 n.2.2.2 e
  .mk k ⟨rfl,rfl,rfl⟩ (R.apart x k) w.2,
 λst e=>wpAny_pyIter_zip st.1 e⟩
end
inductive jh(S:aW)(A:Around)(tg:Expr)(W:Wd)(J:MH)(s:Shared)(Q:Wk->MH->Prop):Value->Shared->Prop
 |mk{it Y T k s'}:gr S A tg it Y k k.len W T->T 0 s'.heap->Apart Y W s'.heap->(∀{a},a∈Y->s.heap.get? a=none)->dt [] W s W s'->Rel S W J s'.heap->k.len<=cL->Q k J->jh S A tg W J s Q (.ref it) s'
noncomputable def xX(k:Ik)(l:List Value):Sem Value:=match k with
 | .plain=>(match l with|v::_=>Pure.pure v|_=>Pure.pure .none)
 | .range=>PySem.call (.type "range") l
 | .enum=>PySem.call (.type "enumerate") l
 | .zip=>PySem.call (.type "zip") l
def isTup(t:Expr):Prop:=∃e x1 p,t= .Tuple e x1 p
def FV(k:Ik)(t:Expr):Prop:=match k with
 | .enum=>isTup t
 | .zip=>isTup t
 |_=>True
inductive tL(S:aW)(W:Wd)(h:Heap)(P:Src->Prop):Value->Prop
 |mk{l vs n k}:IsL h l vs n->SrcL S W l k->k.len<=cL->P k->tL S W h P (.ref l)
section
variable{h:Heap}
def jh.of(R:Rel S W J s.heap)(w:gr S A tg it Y k n W T)(d:n=k.len)(f:T 0 s'.heap)(H:∀{b o},s.heap.get? b=some o->s'.heap.get? b=some o)
  (no:∀{a},a∈Y->s.heap.get? a=none)(l:∀{a},a∈Y->s'.heap.get? a≠none)(g:Sh s s')(c:k.len<=cL)(q:Q k J):jh S A tg W J s Q (.ref it) s':=
 .mk (d▸w) f (λm=>⟨l m,R.ue (no m),R.qp (no m)⟩) no (.mk (pe (λe Z=>H e) (iI H)) g) (R.keeps H) c q
def jh.one(R:Rel S W J s.heap)(w:gr S A tg it [it] k n W T)(H:n=k.len)(a:T 0 h')(d:∀{b o},s.heap.get? b=some o->h'.get? b=some o)
  (no:s.heap.get? it=none)(l:h'.get? it=some oi)(c:k.len<=cL)(q:Q k J):jh S A tg W J s Q (.ref it) {s with heap:=h',toks:=t}:=
 .of R w H a d (λm=>d5 m▸no) (λm=>d5 m▸cD l) ⟨rfl,rfl,rfl⟩ c q
def ze(R:Rel S W J h)(r:aF S W m v)(e:xi m J Q):tL S W h (λk=>Q k J) v:=by
 cases m with
 |aQ l=>exact Sq.casesOn r λa b c=>.mk (k:=.vals l) (R.fz a) (Sq.mk a b c) c e
 |lst i=>exact(R.r_ r e).casesOn λ{l} q e=>q.casesOn λH Z d Z c=>.mk (k:=.live i l.length) d H c e
 |_=>exact az e
def tM(hh:A.handled=none)(R:Rel S W J s.heap)(H:IsL s.heap l vs n)(q:SrcL S W l k)(c:k.len<=cL)(e:Q (.plain k) J):WP S A (pyIter (.ref l)) (jh S A tg W J s Q) s:=
 wpAny_pyIter_list (IsL.list H) (.one R (zc hh q) rfl ⟨_,(Heap.get?_push_size s.heap rfl),rfl,rfl⟩ fU (fT _) (Heap.get?_push_size s.heap rfl) c e)
def A0(hh:A.handled=none)(R:Rel S W J s.heap)(r:aF S W m v)(e:srcOf m J λk=>Q (.plain k)):WP S A (pyIter v) (jh S A tg W J s Q) s:=by
 cases m with
 |tup l=>exact Sq.casesOn r λ{a u n} H d c=>
   wpAny_pyIter_tuple ⟨_,R.fz H,rfl,n,rfl⟩ (.one R (AX hh H d) rfl ⟨_,(Heap.get?_push_size s.heap rfl),rfl,rfl⟩ fU (fT _) (Heap.get?_push_size s.heap rfl) c e)
 |aQ l=>exact Sq.casesOn r λa b c=>tM (k:=.vals l) hh R (R.fz a) (Sq.mk a b c) c e
 |lst i=>exact(R.r_ r e).casesOn λ{l} q e=>q.casesOn λH Z f Z c=>tM (k:=.live i l.length) hh R f H c e
 |_=>exact az e
def Lw{n:Int}{t:Tok}{Q:Wk->MH->Prop}(hh:A.handled=none)(R:Rel S W J s.heap)(c: -cL<=n/\n<=cL)(e:Q (.plain (.vals (fE n.toNat))) J):WP S A (PySem.call (.type "range") [.int n t]) (λx a=>WP S A (pyIter x) (jh S A tg W J s Q) a) s:=by
 refine call_range_1 ?_;have c1: -1000000<=n:=c.1;have c2:n<=1000000:=c.2;have H:Builtin.Range.small 0 n 1=true:=small_one (Int.natCast_nonneg _) (kbt_pos 62) (by lia) (by lia);have b:Builtin.Range.rangeSize 0 n 1=((n.toNat:Nat):Int):=by rw[rangeSize_one];split<;>lia
 refine wpAny_pyIter_range (IsRange.new ..) H ?_;refine rX b ?_;have z:=Heap.get?_push_size (s.heap.push {cls:=.type "range",data:=.fields #[.int 0 s.toks,.int n t,.int 1 (s.toks+1)]}) (o:={cls:=.type "range_iterator",data:=.fields #[rawInt 0,rawInt ((n.toNat:Nat):Int),rawInt 1]}) rfl;have d:n.toNat=(Wk.plain (.vals (fE n.toNat))).len:=by simp[Wk.len,Src.len,fE]
 exact .one R (xc hh) d ((Int.sub_zero _).symm▸z) (λe=>fU (fU e)) (fJ (by rw[Heap.size_push];exact aE _)) z (d▸Int.toNat_le.2 c.2) e
def sk(m:a∈[h.objs.size+1,h.objs.size]):h.get? a=none:=ot (P:=λa=>h.get? a=none) m (fJ (aE _)) (fT _)
def Ly(hh:A.handled=none)(H:isTup tg)(R:Rel S W J s.heap)(q:tL S W s.heap (λk=>Q (.enum k) J) v):WP S A (PySem.call (.type "enumerate") [v]) (λx b=>WP S A (pyIter x) (jh S A tg W J s Q) b) s:=
 H.elim λZ H=>H.elim λZ H=>H.elim λZ H=>H▸q.casesOn λg q c e=>call_enumerate_list (IsL.list g) λi d f l j=>wpAny_pyIter_enum d
  (f.elim λZ w=>.of R (zd hh (Nat.succ_ne_self _) q) rfl ⟨⟨_,d⟩,f⟩ (j _ _) sk (λm=>ot (P:=λa=>i.get? a≠none) m (cD d) (cD w.1)) ⟨rfl,rfl,rfl⟩ c e)
def Lz(hh:A.handled=none)(j:isTup tg)(R:Rel S W J s.heap)(c:x.length<=20)(e:Q (.enum (.vals (signs x))) J):WP S A (PySem.call (.type "enumerate") [.str x t]) (λx b=>WP S A (pyIter x) (jh S A tg W J s Q) b) s:=by
 refine I λk=>?_;obtain⟨_,_,_,rfl⟩:=j;refine k (call_enumerate_str λf d H o g=>wpAny_pyIter_enum d ?_);have n:x.cps.size=(Wk.enum (.vals (signs x))).len:=by simp[Wk.len,Src.len,signs]
 have l{a}(m:a∈[s.heap.objs.size+1,s.heap.objs.size]):f.get? a≠none:=H.elim λZ w=>ot (P:=λa=>f.get? a≠none) m (cD d) (cD w.1);cases i:x.cps.all (· <128)
 ·rw[show strIterType x= "str_iterator" by simp[strIterType,i]]at H;exact .of R (pV (Nat.succ_ne_self _) (Draws.strWide (A:=A.in1) hh _ x t)) n ⟨⟨_,d⟩,H⟩ (g _ _) sk l ⟨rfl,rfl,rfl⟩ (n▸bt c (by decide)) e
 ·rw[show strIterType x= "str_ascii_iterator" by simp[strIterType,i]]at H;exact .of R (pV (Nat.succ_ne_self _) (Draws.strAscii (A:=A.in1) hh _ x t)) n ⟨⟨_,d⟩,H⟩ (g _ _) sk l ⟨rfl,rfl,rfl⟩ (n▸bt c (by decide)) e
def Hu{a:Nat}(H:a<n)(c:b<n):ZipApart (n+4) (n+2) (n+3) n (n+1) a b:=by
 constructor<;>(intro q;lia)
def Du(m:a∈[h.objs.size+4,h.objs.size+2,h.objs.size+3,h.objs.size,h.objs.size+1]):h.get? a=none:=
 Lv (P:=λa=>h.get? a=none) m (fJ (ar _ 4)) (fJ (ar _ 2)) (fJ (ar _ 3)) (fT _) (fJ (ar _ 1))
def Yi(hh:A.handled=none)(H:isTup tg)(R:Rel S W J s.heap)(q:tL S W s.heap (λk=>tL S W s.heap (λl=>Q (.zip k l) J) u) v):WP S A (PySem.call (.type "zip") [v,u]) (λx b=>WP S A (pyIter x) (jh S A tg W J s Q) b) s:=
 H.elim λZ H=>H.elim λZ H=>H.elim λZ H=>H▸q.casesOn λf q c q2=>q2.casesOn λd q2 Z e=>call_zip_2 (IsL.list f) (IsL.list d) λn a1 a2 g i j p o=>wpAny_pyIter_zip a1
  (i.elim λZ w=>j.elim λZ w2=>.of R (AZ hh (Hu (Heap.lt_size f) (Heap.lt_size d)) q q2) rfl ⟨a1,a2,⟨_,_,g⟩,i,j⟩ (o _ _) Du (λm=>Lv (P:=λa=>n.get? a≠none) m (cD a1) (cD a2) (cD g) (cD w.1) (cD w2.1)) ⟨rfl,rfl,rfl⟩ c e)
def Yj(m:MV):M Wk:=match m with
  | .str s=>ke (s.length<=20) (ret (.enum (.vals (signs s))))
  |v=>dj (xi v) λs=>ret (.enum s)
inductive Yk:MV->M Wk->Prop
 |s{x:Str}:Yk (.str x) (ke (x.length<=20) (ret (.enum (.vals (signs x)))))
 |g{q}:Yk q (dj (xi q) λs=>ret (.enum s))
def enk(m:MV):Yk m (Yj m):=by cases m<;>first|exact .s|exact .g
def P_(hh:A.handled=none)(H:isTup tg)(R:Rel S W J s.heap):aF S W m v->Yj m J Q->WP S A (PySem.call (.type "enumerate") [v]) (λx a=>WP S A (pyIter x) (jh S A tg W J s Q) a) s:=
 (enk m).casesOn (λr e=>Is.casesOn r (Lz hh H R (hA e).1 (hA e).2)) λr e=>Ly hh H R (ze R r e)
def tL.mono(q:tL S W h P v)(f:∀{k},P k->P' k):tL S W h P' v:=q.casesOn λa b d c=>.mk a b d (f c)
def LA(hh:A.handled=none)(H:FV k tg)(R:Rel S W J s.heap)(r:aC S W ms vs)(e:uX k ms J Q):
  WP S A (xX k vs) (λx a=>WP S A (pyIter x) (jh S A tg W J s Q) a) s:=by
 cases k with
 |plain=>exact(ll e r).casesOn λr e=>ao (A0 hh R r e)
 |range=>exact(ll e r).casesOn λr e=>(ek e r).casesOn λe=>have e:=hA e;Lw hh R e.1 e.2
 |enum=>exact(ll (k:=Yj) e r).casesOn λr e=>P_ hh H R r e
 |zip=>exact(K5 e r).casesOn λr r2 e=>Yi hh H R ((ze R r e).mono λe=>(ze R r2 e).mono λe=>(hA e).2)
end
noncomputable def cP(ab:Env):List Addr:=ab.locals::ab.cells.map (·.2)
structure xY(ab:Env):Prop where
 kind:ab.scope.kind= .function
 glob:ab.globals=mainGlobals
 boot:ab.builtins=builtinsNs
def xY.plain(x:xY ab):(ab.scope.kind== .class||(ab.scope.kind== .module&&ab.locals !=ab.globals))=false:=rX x.kind rfl
def Ot(ab:Env)(x:Str):Prop:=ab.kindOf x=some .cell\/ab.kindOf x=some .free
structure tN(S:aW)(aa:List Str)(ab:Env)(W:Wd)(af:Loc)(m:Str->Option Value):Prop where
 v:∀{i:Nat}{x:Str}{mv:MV},aa[i]?=some x->ab.kindOf x=some .local->af[i]?=some (some mv)->Got (aF S W mv) (m x)
structure xZ(S:aW)(aa:List Str)(ab:Env)(W:Wd)(af:Loc)(x:Str)(c:Addr)(ov:Option Value):Prop where
 v:∀{i:Nat}{mv:MV},aa[i]?=some x->Ot ab x->ab.cells.lookup x=some c->af[i]?=some (some mv)->Got (aF S W mv) ov
structure dK(S:aW)(aa:List Str)(ab:Env)(W:Wd)(af:Loc)(h:Heap):Prop where
 loc:∃m,h.Ns ab.locals m/\tN S aa ab W af m
 Dv:∀{x c},(x,c)∈ab.cells->∃ov,h.IsCell c ov/\xZ S aa ab W af x c ov
 has:∀{x},Ot ab x->∃c,ab.cells.lookup x=some c
 inj:ab.cells.Pairwise λx y=>x.2≠y.2
 ap:Apart (cP ab) W h
 nd:aa.Nodup
structure Pre(S:aW)(aa:List Str)(ab:Env)(W:Wd)(af:Loc)(J:MH)(s:Shared):Prop where
 K:xY ab
 r:dK S aa ab W af s.heap
 R:Rel S W J s.heap
inductive Ls(S:aW)(aa:List Str)(ab:Env)(X:List Addr)(W:Wd)(s:Shared)(K:Loc->MH->Prop)(s':Shared):Prop
 |mk{W' jx bH}:dt X W s W' s'->Pre S aa ab W' jx bH s'->K jx bH->Ls S aa ab X W s K s'
section
variable{aa:List Str}{ab:Env}{af:Loc}{h:Heap}{X:List Addr}{v:Value}
def Got.imp(q:Got P o)(f:∀v,P v->P' v):Got P' o:=q.casesOn λp=>.mk (f _ p)
def mV:ab.locals∈cP ab:=eE
def vP(h:(x,c)∈ab.cells):c∈cP ab:=fg (mem_map.2 ⟨_,h,rfl⟩)
def dK.move(x:dK S aa ab W af h)(sub:Sub W W')(A:Apart (cP ab) W' h')(k:∀{a},a∈cP ab->∀o,h.get? a=some o->h'.get? a=some o):dK S aa ab W' af h':=
 ⟨x.loc.elim λm z=>⟨m,z.1.at λo e=>k mV o e,⟨λa b c=>(z.2.v a b c).imp (aF.mono sub _)⟩⟩,
  λH=>(x.Dv H).elim λf z=>⟨f,z.1.elim λo w=>⟨o,k (vP H) o w.1,w.2⟩,⟨λa b c d=>(z.2.v a b c d).imp (aF.mono sub _)⟩⟩,x.has,x.inj,A,x.nd⟩
def dK.step(x:dK S aa ab W af h)(st:dW X W h W' h')(n:∀{a},a∈cP ab->a∉X):dK S aa ab W' af h':=
 x.move st.sub (Apart.step x.ap st) λm Z e=>st.keep e (x.ap m).2.1 (n m)
def dK.keeps(x:dK S aa ab W af h)(k:∀{a},a∈cP ab->∀o,h.get? a=some o->h'.get? a=some o)(l:∀{a},a∈cP ab->h'.get? a≠none):dK S aa ab W af h':=
 x.move (.refl W) (λm=>⟨l m,(x.ap m).2⟩) k
def Pre.step(x:Pre S aa ab W af J s)(f:dt X W s W' s')(n:∀{a},a∈cP ab->a∉X)(R:Rel S W' bH s'.heap):Pre S aa ab W' af bH s':=⟨x.K,x.r.step f.todW n,R⟩
def Pre.to(x:Pre S aa ab W af J s)(f:dt [] W s W' s')(R:Rel S W' bH s'.heap):Pre S aa ab W' af bH s':=x.step f (λZ=>d6) R
noncomputable def uF(sc:Sc)(x:Str):Bool:=match sc.lookup x with
 |some k=>(match k with| .local=>true| .cell=>true| .free=>true|_=>false)
 |none=>false
noncomputable def mW(x:Str):Bool:=!(x==("__debug__" :Str))&&!(x==("__classdict__" :Str))
noncomputable def eS(sc:Sc)(x:Str):Bool:=match sc.lookup x with
 |some k=>(match k with| .local=>true| .cell=>true|_=>false)
 |none=>false
def Qa{sc:Sc}(h:uF sc x=true):sc.lookup x=some .local\/sc.lookup x=some .cell\/sc.lookup x=some .free:=by
 unfold uF at h;cases e:sc.lookup x with
 |none=>rw[e]at h;exact ft h
 |some k=>rw[e]at h;cases k<;>first|exact .inl rfl|exact .inr (.inl rfl)|exact .inr (.inr rfl)|exact ft h
def LB{sc:Sc}(h:eS sc x=true):sc.lookup x=some .local\/sc.lookup x=some .cell:=by
 unfold eS at h;cases e:sc.lookup x with
 |none=>rw[e]at h;exact ft h
 |some k=>rw[e]at h;cases k<;>first|exact .inl rfl|exact .inr rfl|exact ft h
theorem vQ:∀(l:List α)(i:Nat),gi l i=l[i]?
 |[],_=>rfl
 |_::_,0=>rfl
 |_::l,i+1=>vQ l i
def aaG(e:eV i af J Q):∃v,af[i]?=some (some v)/\Q v J:=by
 unfold eV at e;rw[vQ]at e;cases z:af[i]? with
 |none=>rw[z]at e;exact e.elim
 |some o=>
  have e:=z▸e;cases o with
  |none=>exact az e
  |some v=>exact⟨v,rfl,e⟩
def Got.LC{G:Prop}(q:Got P o)(k:∀v,o=some v->P v->G):G:=q.casesOn (motive:=λo' Z=>o=o'->G) (λp e=>k _ e p) rfl
def rh(h:mW x=true):(x==("__debug__" :Str))=false/\(x==("__classdict__" :Str))=false:=by
 unfold mW at h;rwa[Bool.and_eq_true,Bool.not_eq_true',Bool.not_eq_true']at h
def Qb(P:Pre S aa ab W af J s)(f:aa[i]?=some x)(H:uF ab.scope.names x=true)(g:mW x=true)(e:eV i af J Q):WP S A (eval (.Name x pos) ab) (Lq S W s Q) s:=
 wpAny_Name ((aaG e).elim λZ e=>(Qa H).elim (λH=>P.r.loc.elim λZ z=>(z.2.v f H e.1).LC λZ a b=>wpAny_loadName_local P.K.kind H z.1 a (.here P.R b e.2))
  λH=>(P.r.has H).elim λc d=>(P.r.Dv (mem_of_lookup d)).elim λZ z=>(z.2.v f H d e.1).LC λZ a b=>
   H.elim (λH=>wpAny_loadName_cell P.K.kind H d (a▸z.1) (.here P.R b e.2)) λH=>wpAny_loadName_free P.K.kind H d (a▸z.1) (.here P.R b e.2) (rh g).2) (rh g).1
def sq(a:aa.Nodup){j:Nat}(H:aa[i]?=some x)(b:aa[j]?=some y)(h:i≠j):x≠y:=λq=>
 h ((List.getElem?_inj (cu H) a).1 (H.trans (q▸b.symm)))
def ou{af:List α}{v:α}{P:Prop}(h:(af.set i v)[j]?=some w)(k:j=i->v=w->P)(k2:j≠i->af[j]?=some w->P):P:=by
 by_cases q:i=j
 ·subst q;have h:=List.getElem?_set_self'▸h;cases z:af[i]? with
  |none=>have h:=z▸h;exact nn (h)
  |some _=>rw[z]at h;exact k rfl (aj h)
 ·rw[List.getElem?_set_ne q]at h;exact k2 (Ne.symm q) h
def A1(d:h.Ns a m)(e:h.IsCell c ov):a≠c:=by
 rintro rfl;obtain⟨o,es,ep,f,g,_⟩:=d;obtain⟨o',H,b⟩:=e;obtain rfl:=aj (ag f H);cases ag g b
def A2(x:Heap.SameBut a h h')(e:h'.get? a=some o)(z:h'.get? b=none):h.get? b=none:=by
 by_cases q:b=a
 ·exact(fj (q▸z) e).elim
 ·exact ag (x.2 b q) z
def LD(n:b∉X)(m:a∈X):b≠a:=λq=>n (q▸m)
abbrev Qc(ab:Env)(X:List Addr)(x:Str):Prop:=ab.locals∈X/\∀{c},ab.kindOf x=some .cell->(x,c)∈ab.cells->c∈X
def FW(x:Heap.SameBut a s.heap h')(e:h'.get? a=some o)(m:a∈X):dt X W s W {s with heap:=h',toks:=t}:=
 .mk (pe (λe n=>(x.2 _ (LD n m)).trans e) (A2 x e)) ⟨rfl,rfl,rfl⟩
def FX(P:Pre S aa ab W af J s)(x:Heap.SameBut a s.heap h')(m:a∈cP ab):Rel S W J h':=P.R.apart P.r.ap λn e=>(x.2 _ (LD n m)).trans e
def LF(P:Pre S aa ab W af J s)(x:Heap.SameBut a s.heap h')(e:h'.get? a=some o):Apart (cP ab) W h':=λm=>⟨λz=>(P.r.ap m).1 (A2 x e z),(P.r.ap m).2⟩
def k2{P:Prop}(e:ab.kindOf x=some a)(E:ab.kindOf x=some b)(n:a≠b):P:=ak (aj (ag e E)) n
def Qd(e:ab.kindOf x=some .local)(o:Ot ab x){P:Prop}:P:=o.elim (λq=>k2 e q (by decide)) λq=>k2 e q (by decide)
def tN.set(q:tN S aa ab W af m)(n:aa.Nodup)(b:aa[i]?=some x)(r:aF S W mv v):tN S aa ab W (af.set i (some mv)) (λy=>if y=x then some v else m y):=
 ⟨λH c a=>ou a (λq q2=>(aO (aj (ag H (q▸b)))).symm▸aj q2▸.mk r) λz a=>(bc (sq n H b z)).symm▸q.v H c a⟩
def tN.skip(q:tN S aa ab W af m)(c:aa[i]?=some x)(d:ab.kindOf x=some .cell):tN S aa ab W (af.set i (some mv)) m:=
 ⟨λa b H=>ou H (λz Z=>k2 (aj (ag a (z▸c))▸b) d (by decide)) λZ H=>q.v a b H⟩
def xZ.skip(q:xZ S aa ab W af y c ov)(e:aa[i]?=some x)(n:y=x->Ot ab y->ab.cells.lookup y=some c->False):xZ S aa ab W (af.set i (some mv)) y c ov:=
 ⟨λa b d H=>ou H (λz Z=>(n (aj (ag a (z▸e))) b d).elim) λZ H=>q.v a b d H⟩
def xZ.set(n:aa.Nodup)(H:aa[i]?=some x)(r:aF S W mv v):xZ S aa ab W (af.set i (some mv)) x c (some v):=
 ⟨λa Z Z b=>ou b (λZ q2=>aj q2▸.mk r) λq Z=>ak rfl (sq n a H q)⟩
def dK.Kd(p:dK S aa ab W af h)(H:aa[i]?=some x)(a:ab.kindOf x=some .local)(b:h.Ns ab.locals m)(q:tN S aa ab W af m)(c:h'.Ns ab.locals λy=>if y=x then some v else m y)(d:Heap.SameBut ab.locals h h')
  (A:Apart (cP ab) W h')(r:aF S W mv v):dK S aa ab W (af.set i (some mv)) h':=
 ⟨⟨_,c,q.set p.nd H r⟩,λf=>(p.Dv f).elim λg u=>⟨g,u.1.sameBut d (Ne.symm (A1 b u.1)),u.2.skip H λe o Z=>Qd a (e▸o)⟩,p.has,p.inj,A,p.nd⟩
def dK.setC(p:dK S aa ab W af h)(H:aa[i]?=some x)(j:ab.kindOf x=some .cell)(k:ab.cells.lookup x=some c)(a:(x,c)∈ab.cells)(z:h.IsCell c ov)(l:h'.IsCell c (some v))(f:Heap.SameBut c h h')
  (A:Apart (cP ab) W h')(r:aF S W mv v):dK S aa ab W (af.set i (some mv)) h':=
 ⟨p.loc.elim λm b=>⟨m,b.1.sameBut f (A1 b.1 z),b.2.skip H j⟩,λ{y d} g=>by
  by_cases q:d=c
  ·subst q;have:=name_of_addr p.inj g a;subst this;exact⟨some v,l,.set p.nd H r⟩
  ·exact(p.Dv g).elim λo u=>⟨o,u.1.sameBut f q,u.2.skip H λe Z w=>q (aj (ag w (e▸k)))⟩,p.has,p.inj,A,p.nd⟩
def ns_obj(H:h.Ns a m):∃o,h.get? a=some o:=H.elim λo w=>w.elim λZ w=>w.elim λZ w=>⟨o,w.1⟩
def A3{K:Loc->MH->Prop}(g:Qc ab X x)(P:Pre S aa ab W af J s)(j:aa[i]?=some x)(H:eS ab.scope.names x=true)(r:aF S W mv v)(e:K (af.set i (some mv)) J):
  WP S A (storeName ab x v) (λZ=>Ls S aa ab X W s K) s:=
 (LB H).elim (λH=>P.r.loc.elim λZ z=>wpAny_storeName_local H z.1 (λZ d a=>(ns_obj d).elim λZ w=>
   .mk (FW a w g.1) ⟨P.K,P.r.Kd j H z.1 z.2 d a (LF P a w) r,FX P a mV⟩ e) P.K.plain)
 λH=>(P.r.has (.inl H)).elim λc f=>have b:=mem_of_lookup f;(P.r.Dv b).elim λo z=>wpAny_storeName_cell P.K.kind H f z.1 λk d a=>d.elim λZ w=>
   .mk (FW a w.1 (g.2 H b)) ⟨P.K,P.r.setC j H f b z.1 d a (LF P a w.1) r,FX P a (vP b)⟩ e
end
inductive nB(aa:List Str)(sc:Sc):Nat->Expr->Prop
 |mk{i x p}:aa[i]?=some x->eS sc x=true->nB aa sc i (.Name x p)
inductive jy(aa:List Str)(sc:Sc):List Nat->List Expr->Prop
 |nil:jy aa sc [] []
 |cons{i x is xs}:nB aa sc i x->jy aa sc is xs->jy aa sc (i::is) (x::xs)
inductive mn(aa:List Str)(sc:Sc):Tg->Expr->Prop
 |one{i t}:nB aa sc i t->mn aa sc (.one i) t
 |many{is ts k p}:jy aa sc is ts->mn aa sc (.many is) (.Tuple ts k p)
noncomputable def fb(t:Tg):List Nat:=match t with| .one i=>[i]| .many is=>is
structure qs(aa:List Str)(ab:Env)(is:List Nat)(X:List Addr):Prop where
 k:∀{i x},i∈is->aa[i]?=some x->Qc ab X x
section
variable{s1:Shared}{K:Loc->MH->Prop}
def Qc.all:Qc ab (cP ab) x:=⟨mV,λZ h=>vP h⟩
def qs.all:qs aa ab is (cP ab):=⟨λZ Z=>.all⟩
def Ls.pre(f:dt X W s W1 s1)(q:Ls S aa ab X W1 s1 K s'):Ls S aa ab X W s K s':=q.casesOn λg=>.mk (f.trans g)
def WP.A4(f:dt X W s W1 s1)(q:WP S A t (λZ=>Ls S aa ab X W1 s1 K) s'):WP S A t (λZ=>Ls S aa ab X W s K) s':=q.mono (Ls.pre f)
def vR(H:qs aa ab [i] X)(P:Pre S aa ab W af J s)(a:nB aa ab.scope.names i t)(r:aF S W m v)(e:K (af.set i (some m)) J):WP S A (assign t ab v) (λZ=>Ls S aa ab X W s K) s:=
 a.casesOn λh b=>wpAny_assign_Name (A3 (H.k (lB rfl) h) P h b r e)
def nB.each{sc:Sc}(h:nB aa sc i x):assignEach (x::xs) ab=(false,assign x ab)::assignEach xs ab:=h.casesOn λZ Z=>rfl
def jy.star{sc:Sc}(h:jy aa sc is xs):assignEach xs ab=xs.map (λx=>(false,assign x ab)):=
 jy.rec rfl (λh Z i=>h.each.trans (congrArg (_::·) i)) h
def vS(S:aW)(A:Around)(v:List Str)(ab:Env)(X:List Addr)(K:Loc->MH->Prop)(i:List Nat)(xs:List Expr):Prop:=∀{m:List MV} {vs:List Value} {W:Wd} {s:Shared} {af a:Loc} {J:MH},qs v ab i X->Pre S v ab W af J s->aC S W m vs->ik af i m=some a->K a J->
  WP S A (assignInOrder (xs.map λx=>assign x ab) vs) (λZ=>Ls S v ab X W s K) s
def Hv:vS S A aa ab X K [] []:=by
 intro m _ _ _ _ _ _ _ P r e q;refine I λk=>?_;cases m with
 |nil=>exact k (r▸ao (.mk (.refl ..) P (aj e▸q)))
 |cons _ _=>exact nn e
def Dw(h:nB aa ab.scope.names i x)(c:vS S A aa ab X K is xs):vS S A aa ab X K (i::is) (x::xs):=by
 intro a _ _ _ _ _ _ b P r e q;refine I λd=>?_;cases a with
 |nil=>exact nn e
 |cons m a=>exact d (Cs.casesOn r λ{v vs} r gC=>ae (aU ((vR (K:=λaf bH=>ik af _ a=some _/\K _ bH) ⟨λH=>b.k (d5 H▸eE)⟩ P h r ⟨e,q⟩).mono λz=>z.casesOn λf p z=>WP.A4 f (c ⟨λH=>b.k (fg H)⟩ p (gC.mono f.sub a _) z.1 z.2))))
def Qe(h:jy aa ab.scope.names i xs):vS S A aa ab X K i xs:=jy.rec (motive:=λi xs Z=>vS S A aa ab X K i xs) Hv (λh Z a=>Dw h a) h
theorem mq{d t:Addr}{a:Array Value}(e:t≠d):∀(n i:Nat) (s:Shared) (Q:List Value->Shared->Prop),s.heap.IsListIter d t i->s.heap.IsList t a->i+n<=a.size->
  (∀j,j.IsListIter d t (i+n)->Heap.SameBut d s.heap j->Q ((a.toList.drop i).take n) {s with heap:=j})->wpAny (model prog w) A (draw (.ref d) n) Q E s
 |0=>λi s Q hit Z Z hQ=>ao (hQ s.heap hit (Heap.SameBut.refl ..))
 |n+1=>λi s Q hit ht hle hQ=>by
  have g:=i7 (bU (Nat.succ_pos n)) hle;refine ae (wpAny_pyNext_list_item hit ht (Array.getElem?_eq_getElem g) λk b H=>?_);refine ae (aU (mq e n (i+1) _ _ b (ht.extBut H.extBut e) (by rw[Nat.succ_add];exact hle) λf h c=>ao ?_));have:=hQ f (by rw[Nat.succ_add]at h;exact h) (H.trans c);rw[drop_eq_getElem_cons (Array.length_toList▸g)]at this;exact this
def mr(hh:A.handled=none)(c:s.heap.IsList t items)
  (k:∀j,Heap.ExtBut s.heap.objs.size s.heap j->Q items.toList {s with heap:=j}):wpAny (model prog w) A (unpackItems (.ref t) items.size none) Q E s:=by
 have f:t≠s.heap.objs.size:=by obtain⟨o,l,_⟩:=c;exact cm (Heap.lt_size l)
 refine ae (ae (wpAny_specialOf c.typeIs slot_list_iter.lookup (ao ?_)));refine ae (aU (wpAny_pyIter_list c ?_));refine ae (aU (mq f items.size 0 _ _ ⟨_,Heap.get?_push_size _ rfl,rfl,rfl⟩ (c.push _) (bx (aD _)) λg H h=>?_));refine rX drop_zero (rX (take_of_length_le (bx Array.length_toList)) (rX (bc (by simp)) ?_));refine ae (aU (wpAny_pyNext_list_end hh H ((c.push _).extBut h.extBut f) (Array.getElem?_eq_none (bx (aD _).symm)) λd a=>?_));exact ao (k d λb o i e=>a b o i (h.extBut b o i (Heap.get?_push_of_some _ e)))
def FY(x:Heap.ExtBut h.objs.size h h')(e:h.get? b=some o):h'.get? b=some o:=x b o (cm (Heap.lt_size e)) e
def A5(hh:A.handled=none)(q:j6 S W s.heap l v)
  (h:∀{h' vs},(∀{b o},s.heap.get? b=some o->h'.get? b=some o)->aC S W l vs->Q vs {s with heap:=h'}):WP S A (unpackItems v l.length none) Q s:=
 q.casesOn (λa H Z=>H.size▸mr hh (IsL.list a) λZ x=>h (FY x) H)
  λa H Z=>H.size▸wpAny_unpackItems_tuple hh ⟨_,a,rfl,_,rfl⟩ λZ x=>h (FY x) H
def x4(hh:A.handled=none)(q:j6 S W s.heap l v)(H:ts.length=l.length)(a:ts.findIdx? (·.1)=none)
  (h:∀{h' vs},(∀{b o},s.heap.get? b=some o->h'.get? b=some o)->aC S W l vs->WP S A (assignInOrder (ts.map (·.2)) vs) Q {s with heap:=h'}):WP S A (unpack v ts) Q s:=by
 unfold unpack;exact rX H (rX a (ae (aU (A5 hh q h))))
def tO{xs:List Expr}:(xs.map λx=>(false,assign x ab)).findIdx? (·.1)=none:=by
 induction xs with
 |nil=>rfl
 |cons x xs i=>simp[List.findIdx?_cons,i]
def sr(k:∀{b o},s.heap.get? b=some o->h'.get? b=some o):dt X W s W {s with heap:=h'}:=rd k
theorem rj:∀{i:List Nat} {m:List MV} {af:Loc},ik af i m=some jx->i.length=m.length
 |[],[]=>λZ=>rfl
 |[],_::_=>λe=>nn e
 |_::_,[]=>λe=>nn e
 |_::_,_::_=>λe=>congrArg (·+1) (rj e)
def jy.len{sc:Sc}(h:jy aa sc is xs):is.length=xs.length:=jy.rec rfl (λZ Z i=>congrArg (·+1) i) h
def SY(H:qs aa ab (fb tg) X)(hh:A.handled=none)(P:Pre S aa ab W af J s)(h:mn aa ab.scope.names tg t)(r:aF S W m v)(e:jP af m tg J K):
  WP S A (assign t ab v) (λZ=>Ls S aa ab X W s K) s:=
 h.casesOn
  (λh H e=>vR H P h r e)
  (λ{i T k p} h H e=>(P.R.items r e).casesOn λq e=>(kl e).elim λa e=>by
   rw[arm_assign_Tuple];refine rX h.star ?_
   exact ae (a4 (x4 hh q (cX.trans (ag h.len (rj e.1))) tO λk b=>
    rX map_map (WP.A4 (sr k) (Qe h H (P.to (sr k) (P.R.keeps k)) b e.1 e.2))))) H e
end
noncomputable def clear(af:Loc):List Nat->Loc
 |[]=>af
 |i::is=>clear (af.set i none) is
def qt:∀{a:List Nat}{af:Loc}{i:Nat}{x:Option MV},i∉a->(clear af a).set i x=clear (af.set i x) a:=by
 intro b;induction b with
 |nil=>exact λZ=>rfl
 |cons j a c=>exact λn=>(c λm=>n (fg m)).trans (congrArg (clear · a) (set_comm _ _ λe=>n (e▸eE)))
theorem lN:∀{b:List Nat}{c:List MV}{af a:Loc},b.Nodup->ik af b c=some a->ik (clear af b) b c=some a/\clear a b=clear af b
 |[],[],_,_=>λZ e=>⟨e,(aj e).symm⟩
 |[],_::_,_,_=>λZ e=>nn e
 |_::_,[],_,_=>λZ e=>nn e
 |i::b,m::c,af,a=>λn e=>by
  have n:=mH n;have q:(clear (af.set i none) b).set i (some m)=clear (af.set i (some m)) b:=(qt n.1).trans (by rw[set_set]);refine⟨(congrArg (ik · b c) q).trans (lN n.2 (e:ik (af.set i (some m)) b c=some a)).1,?_⟩;show clear (a.set i none) b=clear (af.set i none) b;refine rX (qt n.1).symm ?_;refine rX (lN n.2 (e:ik (af.set i (some m)) b c=some a)).2 ?_;refine rX (qt n.1) ?_;rw[set_set]
theorem ph:∀{a:List Nat}{af:Loc}{j:Nat}{mv:MV},(clear af a)[j]?=some (some mv)->j∉a/\af[j]?=some (some mv)
 |[],_,_,_,e=>⟨d6,e⟩
 |i::a,af,j,mv,e=>have b:=ph (af:=af.set i none) e;ou b.2 (λZ q=>nn q) λn q=>⟨λm=>(hH m).elim n b.1,q⟩
def Yl(e:J[a]?=some (.list l))(q:Q l J):dh a J Q:=by with_unfolding_all exact⟨l,e,q⟩
def Ym(e:x=some a)(q:Q a J):ask x J Q:=by with_unfolding_all exact⟨a,e,q⟩
def Tg.nd(t:Tg):Prop:=(fb t).Nodup
def A6(e:itemsOf m J Q)(k:∀{l},Q l J->Q' l J):itemsOf m J Q':=by
 cases m with
 |tup l=>exact k e
 |aQ l=>exact k e
 |lst i=>exact(KZ e).elim λl q=>Yl q.1 (k q.2)
 |_=>exact e
def A7{K:Loc->MH->Prop}(n:tg.nd)(e:jP af m tg J K):jP (clear af (fb tg)) m tg J λb J=>clear b (fb tg)=clear af (fb tg)/\K b J:=by
 cases tg with
 |one i=>
  replace e:K (af.set i (some m)) J:=e;show clear (((af.set i none).set i (some m)).set i none) []=af.set i none/\K ((af.set i none).set i (some m)) J;refine rX (set_set (a:=none)) ?_;rw[set_set];exact⟨rfl,e⟩
 |many c=>
  exact A6 e λe=>(kl e).elim λb e=>Ym (lN n e.1).1 ⟨(lN n e.1).2,e.2⟩
noncomputable def closed(ab:Env)(n:Sc):List (Str×Addr):=((n.filter λp=>p.2==NameKind.free).map λp=>(p.1,(ab.cells.lookup p.1).getD 0)).reverse
def ckR(v:List Str)(sc:Sc)(a:List Nat)(x:Str)(k:NameKind):Prop:=match k with
 | .local=>x=(".0" :Str)\/∃i∈a,v[i]?=some x
 | .free=>sc.lookup x=some .cell\/sc.lookup x=some .free
 | .cell=>False
 |_=>True
abbrev jT(v:List Str)(sc:Sc)(i:List Nat)(scope:Scope):Prop:=scope.kind= .function/\(".0" :Str)∉v/\(scope.names.map (·.1)).Nodup/\∀{x k},(x,k)∈scope.names->ckR v sc i x k
def qu(h:∀p∈scope.names,p.2=NameKind.free->∃c,ab.cells.lookup p.1=some c):closureFor scope ab=Pure.pure (closed ab scope.names):=by
 have key:∀(names:Sc) (acc:List (Str×Addr)),(∀p∈names,p.2=NameKind.free->∃c,ab.cells.lookup p.1=some c)->
   (forIn names acc λ(p:Str×NameKind) (cs:List (Str×Addr))=>match p with
    |(name,kind)=>if(kind==NameKind.free)=true then(do let c<-cellOf ab name;Pure.pure (ForInStep.yield ((name,c)::cs)):Sem (ForInStep (List (Str×Addr))))else Pure.pure (ForInStep.yield cs))=Pure.pure (closed ab names++acc):=by
  intro names;induction names with
  |nil=>intro acc _;rfl
  |cons p names ih=>
   intro acc h;obtain⟨n,k⟩:=p;rw[forIn_cons];dsimp only;by_cases hk:(k==NameKind.free)=true
   ·obtain⟨c,hc⟩:=h (n,k) eE (by simpa using hk);have h1:cellOf ab n=Pure.pure c:=by unfold cellOf;exact rX hc rfl
    refine rX (aO hk) (rX h1 ?_);show(forIn names ((n,c)::acc) _:Sem _)=_;refine rX (ih _ λp hp=>h p (fg hp)) ?_;simp[closed,hk,hc]
   ·refine rX (bc hk) ?_;show(forIn names acc _:Sem _)=_;refine rX (ih _ λp hp=>h p (fg hp)) ?_;simp[closed,hk]
 have:=key scope.names [] h;rw[append_nil]at this;exact(congrArg (λx:Sem (List (Str×Addr))=>x>>=λr=>Pure.pure r) this).trans rfl
def hC{l:List (Str×α)}{x:Str}{c:α}(hn:(l.map (·.1)).Nodup)(h:(x,c)∈l):l.lookup x=some c:=by
 induction l with
 |nil=>exact nomatch h
 |cons p r i=>
  refine rX lookup_cons ?_;rcases hH h with e|H
  ·refine rX e.symm ?_;rw[beq_self_eq_true]
  ·exact rX (beq_eq_false_iff_ne.2 λq:x=p.1=>(mH hn).1 (mem_map.2 ⟨_,H,q⟩)) (i (mH hn).2 H)
theorem tP{f:Str×NameKind->Str×NameKind}(h:∀p,(f p).1=p.1):∀(N:Sc) (x:Str),(N.map f).lookup x=(N.lookup x).map λk=>(f (x,k)).2
 |[]=>λZ=>rfl
 |(n,k)::r=>λx=>by
  have H:f (n,k)=(n,(f (n,k)).2):=Prod.ext (h (n,k)) rfl;refine rX map_cons (rX H (rX lookup_cons (rX lookup_cons ?_)));cases e:x==n with
  |true=>exact rX (beq_iff_eq.1 e) rfl
  |false=>exact tP h r x
noncomputable def FZ(sc:Sc)(x:Str)(k:NameKind):NameKind:=if(k== .free&&sc.lookup x==some .cell)then .cell else k
def eA(sc n:Sc):Sc:=n.map λp=>(p.1,FZ sc p.1 p.2)
def lO(h:ab.scope.kind= .function):(relabel scope ab).names=eA ab.scope.names scope.names:=
 map_congr_left λp Z=>by
  show(if(p.2== .free&&ab.scope.kind== .function&&ab.kindOf p.1==some .cell)=true then(p.1,.cell)else(p.1,p.2))=_;refine rX h ?_;refine rX (show(ScopeKind.function==ScopeKind.function)=true from rfl) ?_;rw[Bool.and_true];exact(apply_ite (Prod.mk p.1) _ _ _).symm
def rk(sc n:Sc)(x:Str):(eA sc n).lookup x=(n.lookup x).map (FZ sc x):=tP (f:=λp=>(p.1,FZ sc p.1 p.2)) (λZ=>rfl) n x
def Qf{sc:Sc}(h:(eA sc names).lookup x=some k):∃a,(x,a)∈names/\(k=a\/k= .cell/\a= .free):=by
 rw[rk]at h;cases e:names.lookup x with
 |none=>rw[e]at h;exact nn h
 |some a=>
  rw[e]at h;refine⟨a,mem_of_lookup e,?_⟩;have h:=aj h;unfold FZ at h;split at h
  ·rename_i q;exact .inr ⟨h.symm,eq_of_beq (aA q).1⟩
  ·exact .inl h.symm
def j7(h:∀q∈names,q.2=NameKind.free->∃c,ab.cells.lookup q.1=some c)(a:p∈closed ab names):(p.1,NameKind.free)∈names/\ab.cells.lookup p.1=some p.2:=by
 unfold closed at a;rw[mem_reverse,mem_map]at a;obtain⟨q,H,rfl⟩:=a;have H:=mem_filter.1 H;obtain⟨c,b⟩:=h q H.1 (eq_of_beq H.2);exact⟨(eq_of_beq H.2)▸H.1,b.trans (congrArg some (by refine rX b ?_;rfl))⟩
section
variable{scope:Scope}
def sv(o:jT aa ab.scope.names is scope)(r:dK S aa ab W af h):∀q∈scope.names,q.2=NameKind.free->∃c,ab.cells.lookup q.1=some c:=λq H a=>
 r.has (o.2.2.2 (k:=.free) (a▸H))
def zf(K:ab.scope.kind= .function)(e:(compEnvC scope (closed ab scope.names) C ab).kindOf x=some k):∃a,(x,a)∈scope.names/\(k=a\/k= .cell/\a= .free):=
 Qf (sc:=ab.scope.names) (lO K▸e)
def LG(K:ab.scope.kind= .function)(o:jT aa ab.scope.names is scope)(e:Ot (compEnvC scope (closed ab scope.names) C ab) x):(x,NameKind.free)∈scope.names:=
 e.elim (λe=>(zf K e).elim λk z=>z.2.elim (λq=>az (o.2.2.2 (k:=.cell) (q▸z.1))) λq=>q.2▸z.1) λe=>(zf K e).elim λk z=>z.2.elim (λq=>q▸z.1) λq=>nomatch q.1
def A8(a:∀q∈scope.names,q.2=NameKind.free->∃c,ab.cells.lookup q.1=some c)(H:(x,NameKind.free)∈scope.names):∃c,(closed ab scope.names).lookup x=some c:=by
 obtain⟨c,b⟩:=a _ H rfl;have h:(x,c)∈closed ab scope.names:=mem_reverse.2 (mem_map.2 ⟨(x,.free),mem_filter.2 ⟨H,rfl⟩,rX (b) rfl⟩);cases e:(closed ab scope.names).lookup x with
 |some C=>exact⟨C,rfl⟩
 |none=>exact ak (lookup_eq_none_iff.1 e _ h) (by simp)
def A9(o:jT aa ab.scope.names is scope)(r:dK S aa ab W af h)(a:∀q∈scope.names,q.2=NameKind.free->∃c,ab.cells.lookup q.1=some c):(closed ab scope.names).Pairwise λx y=>x.2≠y.2:=by
 have n:((closed ab scope.names).map (·.1)).Nodup:=by
  exact rX map_reverse (rX map_map (pairwise_reverse.2 ((((filter_sublist).map Prod.fst).nodup o.2.2.1).imp Ne.symm)))
 refine(pairwise_map.1 n).imp_of_mem λ{p q} d f H e=>H ?_;have b:=mem_of_lookup (j7 a d).2;rw[e]at b;exact name_of_addr r.inj b (mem_of_lookup (j7 a f).2)
def Hw(K:ab.scope.kind= .function)(c:jT aa ab.scope.names is scope)(r:dK S aa ab W af h)(k:∀{b o},h.get? b=some o->LI.get? b=some o)
  (l:LI.Ns C aaH)(A:Apart [C] W LI):dK S aa (compEnvC scope (closed ab scope.names) C ab) W (clear af is) LI:=
 have d:=sv c r
 ⟨⟨aaH,l,⟨λ{i x mv} H n s=>(zf K n).elim λE z=>az (z.2.elim (λq=>by
    subst q;rcases c.2.2.2 z.1 with rfl|⟨j,D,g⟩
    ·exact c.2.1 (gh H)
    ·refine sq r.nd H g (λe=>(ph s).1 (e▸D)) rfl) λq=>nomatch q.1)⟩⟩,
  λt=>have m:=j7 d t;(r.Dv (mem_of_lookup m.2)).elim λu z=>⟨u,z.1.elim λo w=>⟨o,k w.1,w.2⟩,⟨λH Z Z y=>z.2.v H (c.2.2.2 m.1) m.2 (ph y).2⟩⟩,
  λB=>A8 d (LG K c B),A9 c r d,
  λ{b} f=>(hH f).elim (λe=>A (e▸lB rfl)) λf=>(i4 f).elim λp z=>
   have a:=r.ap (vP (mem_of_lookup (j7 d z.1).2))
   z.2▸⟨λq=>a.1 (iI k q),a.2⟩,r.nd⟩
end
noncomputable abbrev tests(i:List Expr)(ab:Env):Sem Bool:=forIn i true λc r=>if r=true then do let ok<-isTrue c ab (eval c ab);Pure.pure (ForInStep.yield ok)else Pure.pure (ForInStep.yield r)
abbrev ug(S:aW)(A:Around)(v:List Str)(ab:Env)(x:Sem Value)(e:PE):Prop:=∀{W af J s Q},Pre S v ab W af J s->e af J Q->WP S A x (Lq S W s Q) s
abbrev xd(S:aW)(A:Around)(v:List Str)(ab:Env)(x:Sem Bool)(e:PT):Prop:=∀{W af J s Q},Pre S v ab W af J s->e af J Q->WP S A x (Lb S W s Q) s
def LJ(S:aW)(A:Around)(e:Expr)(a:Value)(ab:Env)(j:Shared->Prop)(o:Bool)(s:Shared):Prop:=match o with
 |true=>WP S A (eval e ab) (λx s=>WP S A (PySem.call (.builtin "list.append") [a,x]) (λZ=>j) s) s
 |false=>j s
def Dx(S:aW)(A:Around)(e t:Expr)(i:List Expr)(b a:Value)(ab:Env)(R:Result->Shared->Prop)(j:Shared->Prop)(r:Option Value)(s:Shared):Prop:=match r with
 |none=>R (.ok .next) s
 |some v=>WP S A (letOwnedTupleGo t b v) (λZ s=>WP S A (assign t ab v) (λZ s=>WP S A (tests i ab) (LJ S A e a ab j) s) s) s
def j8{E:Value->Shared->Prop}(v:Value)(s:Shared)(f:False):E v s:=f.elim
def zg{R:Result->Shared->Prop}(i:Nat->Shared->Prop)
  (turn:∀n s,i n s->WP S A (pyNext it) (Dx S A elt tg ifs it acc ab R λs=>∃m,m<n/\i m s) s)(n:Nat)(h:i n s):codeAny (model pw S.w) A (.compLoop (.ListComp elt [⟨tg,mw,ifs,0⟩] scope pos) 0 it acc ab) R s:=by
 refine codeAny_loop rfl i (λn s p=>?_) n h;refine wpAny_noted ?_;rw[compTurn_list];refine ae (a4 (ae (wpAny_mono (turn n s p) (λr f H=>?_) j8)));cases r with
 |none=>exact ao H
 |some v=>
  refine ae (wpAny_mono H (λZ g b=>ae (wpAny_mono b (λZ j c=>ae (wpAny_mono c (λt k a=>?_) j8)) j8)) j8);cases t with
  |false=>exact ao ⟨rfl,a⟩
  |true=>exact ae (ae (wpAny_mono a (λx l d=>ae (wpAny_mono d (λZ o e=>ao (ao ⟨rfl,e⟩)) j8)) j8))
inductive Hx(S:aW)(W:Wd)(h:Heap)(D:Addr)(l:List MV):Prop
 |mk{vs c}:IsL h D vs c->aC S W l vs.toList->Hx S W h D l
structure Turn(S:aW)(aa:List Str)(da:Env)(Y:List Addr)(D:Addr)(T:Nat->Heap->Prop)(bG:Wd)(b_:Shared)(i:Nat)(done:List MV)(W:Wd)(af:Loc)(J:MH)(s:Shared):Prop where
 here:T i s.heap
 sx:Apart Y W s.heap
 Hy:Apart [D] W s.heap
 pre:Pre S aa da W af J s
 lst:Hx S W s.heap D done
 f:dt ([D,da.locals]++Y) bG b_ W s
inductive CompEnd(S:aW)(C D:Addr)(bG:Wd)(b_:Shared)(Q:List MV->MH->Prop):Result->Shared->Prop
 |mk{W m J l s}:Heap.Ns s.heap C m->Apart [D] W s.heap->Apart [C] W s.heap->Rel S W J s.heap->Hx S W s.heap D l->dt [D,C] bG b_ W s->Q l J->CompEnd S C D bG b_ Q (.ok .next) s
inductive CI(S:aW)(aa:List Str)(da:Env)(Y:List Addr)(D:Addr)(T:Nat->Heap->Prop)(bG:Wd)(b_:Shared)(wk:Wk)(tg:Tg)(ok:PT)(elt:PE)(af:Loc)(N:Nat)(Q:List MV->MH->Prop)(n:Nat)(s:Shared):Prop
 |mk{i W J done Q'}:i+n=N->done.length<=i->jC wk tg ok elt af n i J Q'->(∀{l J},Q' l J->Q (done++l) J)->Turn S aa da Y D T bG b_ i done W (clear af (fb tg)) J s->CI S aa da Y D T bG b_ wk tg ok elt af N Q n s
def dK.weak(x:dK S aa ab W Qg h)(k:∀{j:Nat}{mv:MV},Qh[j]?=some (some mv)->Qg[j]?=some (some mv)):dK S aa ab W Qh h:=
 ⟨x.loc.elim λm z=>⟨m,z.1,⟨λa b c=>z.2.v a b (k c)⟩⟩,λH=>(x.Dv H).elim λo z=>⟨o,z.1,⟨λa b c d=>z.2.v a b c (k d)⟩⟩,x.has,x.inj,x.ap,x.nd⟩
def dt.mono(f:dt X W s W' s')(k:∀{a},a∈X->a∈Z0):dt Z0 W s W' s':=.mk (f.todW.mono k) f.toSh
def Hx.keep(x:Hx S W s.heap D l)(f:dt X W s W' s')(nl:D∉W.ls)(n:D∉X):Hx S W' s'.heap D l:=x.casesOn λa b=>.mk (f.keep a nl n) (b.mono f.sub _ _)
def Turn.step(t:Turn S aa da Y D T bG b_ i done W af J s)(f:dt X W s W' s')(p:Pre S aa da W' jx bH s')(h:T i' s'.heap)(n:D∉X)(k:∀{a},a∈X->a∈[D,da.locals]++Y):Turn S aa da Y D T bG b_ i' done W' jx bH s':=
 ⟨h,Apart.step t.sx f.todW,Apart.step t.Hy f.todW,p,t.lst.keep f (t.Hy (lB rfl)).2.1 n,t.f.trans (f.mono k)⟩
def uG(w:gr S A tgE it Y k n bG T)(b:Apart Y W s.heap)(f:dt X W s W' s')(N:∀{a},a∈Y->a∉X)(h:T i s.heap):T i s'.heap:=
 w.1 h λm Z e=>f.keep e (b m).2.1 (N m)
def Turn.go(w:gr S A tgE it Y k n bG T)(t:Turn S aa da Y D T bG b_ i done W af J s)(f:dt [] W s W' s')(R:Rel S W' bH s'.heap):Turn S aa da Y D T bG b_ i done W' af bH s':=
 t.step f (t.pre.to f R) (uG w t.sx f (λZ=>d6) t.here) d6 λm=>ak m d6
def Turn.weak(t:Turn S aa da Y D T bG b_ i done W af J s)(k:∀{j:Nat}{mv:MV},jx[j]?=some (some mv)->af[j]?=some (some mv)):Turn S aa da Y D T bG b_ i done W jx J s:=⟨t.here,t.sx,t.Hy,⟨t.pre.K,t.pre.r.weak k,t.pre.R⟩,t.lst,t.f⟩
def tQ{P:α->Prop}(m:a∈[b])(p:P b):P a:=d5 m▸p
def Hz(H:IsL h D vs c):∃n,(h.update D (Obj.mapSeq (λxs=>xs.push xv))).get? D=some (so "list" (vs.push xv) n):=⟨_,Heap.get?_update_self _ H rfl⟩
def Turn.push(w:gr S A tgE it Y k n bG T)(h:D∉Y)(H:D∉cP da)(c:done.length<=cL)(t:Turn S aa da Y D T bG b_ i done W af J s)(r:aF S W mv xv)
  (j:∀{s'},Turn S aa da Y D T bG b_ i (done++[mv]) W af J s'->JJ s'):WP S A (PySem.call (.builtin "list.append") [.ref D,xv]) (λZ=>JJ) s:=
 t.lst.casesOn λ{vs C} b d=>call_meets F.slot_list_append ⟨_,b,rfl⟩ F.entry_list_append (F.args_list_append_2 _ _) (list_append D vs C xv (d.size▸ez c)) ⟨b,j
  ((Hz b).elim λN g=>
  have k{a o}(m:a∉[D])(e:s.heap.get? a=some o):(s.heap.update D (Obj.mapSeq λxs=>xs.push xv)).get? a=some o:=((Heap.SameBut.update s.heap D (Obj.mapSeq λxs=>xs.push xv)).2 a (AW m)).trans e;have f:dt [D] W s W {s with heap:=s.heap.update D (Obj.mapSeq λxs=>xs.push xv)}:=.mk (og k λm=>tQ (P:=λa=>(s.heap.update D (Obj.mapSeq λxs=>xs.push xv)).get? a≠none) m (cD g)) ⟨rfl,rfl,rfl⟩
  ⟨uG w t.sx f (λm q=>h (d5 q▸m)) t.here,Apart.step t.sx f.todW,Apart.step t.Hy f.todW,t.pre.step f (λm q=>H (d5 q▸m)) (t.pre.R.apart t.Hy k),.mk g ((d.append (.one r)).to Array.toList_push),t.f.trans (f.mono λm=>rL (.inl (d5 m▸eE)))⟩)⟩
structure sy(S:aW)(A:Around)(aa:List Str)(da:Env)(Y:List Addr)(D:Addr)(T:Nat->Heap->Prop)(bG:Wd)(b_:Shared)(wk:Wk)(tg:Tg)(ok:PT)(elt:PE)(N:Nat)(t x:Expr)(fs:List Expr)(it:Addr):Prop where
 hh:A.handled=none
 xe:gr S A t it Y wk N bG T
 ht:mn aa da.scope.names tg t
 nd:tg.nd
 hX:qs aa da (fb tg) [da.locals]
 Qi:D∉Y
 hDo:D∉cP da
 Dy:∀{a},a∈Y->a∉cP da
 Qj:∀{a},a∈Y->b_.heap.get? a=none
 hN:N<=cL
 hT:xd S A aa da (tests fs da) ok
 hE:ug S A aa da (eval x da) elt
section
variable{Q':List MV->MH->Prop}
def Apart.keep(a:Apart X W h)(k:∀{a},a∈X->∀{o},h.get? a=some o->h'.get? a=some o):Apart X W h':=λ{b} m=>⟨λq=>(a m).1 (none_of λZ e=>fj q (k m e)),(a m).2⟩
def Turn.fin(H:sy S A aa da Y D T bG b_ wk tg ok elt N t x fs it)(c:Turn S aa da Y D T bG b_ i done W af J s)(k:∀{a o},a∉Y->s.heap.get? a=some o->s'.heap.get? a=some o)(d:Sh s s')(R:Rel S W J s'.heap)(e:Q done J):CompEnd S da.locals D bG b_ Q (.ok .next) s':=
 have C:=λm=>H.Dy m mV;have kD{a}(m:a∈[D]){o}(e:s.heap.get? a=some o):s'.heap.get? a=some o:=k (tQ (P:=λa=>a∉Y) m H.Qi) e;have kC{a}(m:a∈[da.locals]){o}(e:s.heap.get? a=some o):s'.heap.get? a=some o:=k (tQ (P:=λa=>a∉Y) m C) e
 c.pre.r.loc.elim λZ z=>.mk (z.1.at λZ e=>k C e) (Apart.keep c.Hy kD) (Apart.keep (λm=>tQ (P:=λa=>s.heap.get? a≠none/\a∉W.ls/\W.fz a=none) m (c.pre.r.ap mV)) kC) R (c.lst.casesOn λa b=>.mk (k H.Qi a) b) (.mk (c.f.todW.finish k H.Qj) (c.f.toSh.trans d)) e
def Qk(H:sy S A aa da Y D T bG b_ wk tg ok elt N t x fs it)(h:i+0=N)(a:Turn S aa da Y D T bG b_ i done W af J s)(e:wk.lC J λZ J=>Q' [] J)(k:∀{l J},Q' l J->Q (done++l) J):
  WP S A (pyNext (.ref it)) (Dx S A x t fs (.ref it) (.ref D) da (CompEnd S da.locals D bG b_ Q) JJ) s:=
 (H.xe.2.2.1 a.f.sub (h▸a.here) a.sx a.pre.R e).mono λq=>q.casesOn λb c R e=>a.fin H b c R (append_nil done▸k e)
def Ql(H:sy S A aa da Y D T bG b_ wk tg ok elt N t x fs it)(h:i+(n+1)=N)(c:done.length<=i)(k:∀{l J},Q' l J->Q (done++l) J)(a:Turn S aa da Y D T bG b_ (i+1) done W jx J s)(w:clear jx (fb tg)=clear af (fb tg))
  (e:pG b (elt jx J λv J=>jC wk tg ok elt af n (i+1) J (uY v Q')) (jC wk tg ok elt af n (i+1) J Q')):LJ S A x (.ref D) da (λs=>∃m,m<n+1/\CI S aa da Y D T bG b_ wk tg ok elt af N Q m s) b s:=
 have wk{j:Nat}{mv:MV}(e:(clear af (fb tg))[j]?=some (some mv)):jx[j]?=some (some mv):=(ph (w.symm▸e)).2
 match b,e with
 |false,e=>⟨n,ba n,.mk ((Nat.succ_add i n).trans h) (Nat.le_succ_of_le c) e k (a.weak wk)⟩
 |true,e=>(H.hE a.pre e).mono λq=>q.casesOn λ{_ _ m} f R r e=>(a.go H.xe f R).push H.xe H.Qi H.hDo (bt c (bt (h▸ar i (n+1)) H.hN)) r λa=>
   ⟨n,ba n,.mk ((Nat.succ_add i n).trans h) (length_append.symm▸Nat.succ_le_succ c) e (λ{l _} q=>(append_assoc done [m] l).symm▸k q) (a.weak wk)⟩
def Qm(H:sy S A aa da Y D T bG b_ wk tg ok elt N t x fs it)(d:i+(n+1)=N)(g:done.length<=i)(b:Turn S aa da Y D T bG b_ i done W (clear af (fb tg)) J s)(e:jC wk tg ok elt af (n+1) i J Q')(k:∀{l J},Q' l J->Q (done++l) J):
  WP S A (pyNext (.ref it)) (Dx S A x t fs (.ref it) (.ref D) da (CompEnd S da.locals D bG b_ Q) (λs=>∃m,m<n+1/\CI S aa da Y D T bG b_ wk tg ok elt af N Q m s)) s:=
 (H.xe.2.1 b.f.sub (d▸bU (Nat.succ_pos n)) b.here b.sx b.pre.R e).mono λq=>q.casesOn λw=>w.mono λq=>q.casesOn λf R r h e=>
 have c:=b.step f (b.pre.step f (λm q=>H.Dy q m) R) h H.Qi λm=>rL (.inr m)
 (SY H.hX H.hh c.pre H.ht r (A7 H.nd e)).mono λq=>q.casesOn λf p e=>
 have nC{a}(m:a∈Y):a∉[da.locals]:=λq=>H.Dy m (d5 q▸mV);have j:=c.step f p (uG H.xe c.sx f nC c.here) (λq=>H.hDo (d5 q▸mV)) λm=>rL (.inl (d5 m▸fg eE))
 (H.hT p e.2).mono λq=>q.casesOn λf R E=>Ql H d g k (j.go H.xe f R) e.1 E
def Dz(H:sy S A aa da Y D T bG b_ wk tg ok elt N t x fs it)(e:jC wk tg ok elt af N 0 J Q)(a:Turn S aa da Y D T bG b_ 0 [] W (clear af (fb tg)) J s):
  codeAny (model pw S.w) A (.compLoop (.ListComp x [⟨t,mw,fs,0⟩] scope pos) 0 (.ref it) (.ref D) da) (CompEnd S da.locals D bG b_ Q) s:=
 zg (CI S aa da Y D T bG b_ wk tg ok elt af N Q) (λn=>n.casesOn (λZ q=>q.casesOn λh b e k a=>Qk H h a e k) λn Z q=>q.casesOn λh b e k a=>Qm H h b a e k) N (.mk (done:=[]) (aD N) (Nat.le_refl 0) e (λq=>q) a)
end
inductive A_(S:aW)(A:Around)(t:Expr)(W:Wd)(s:Shared)(Q:Wk->MH->Prop)(x:Value)(hS:Shared):Prop
 |mk{pX sb J}:dt [] W s pX sb->Rel S pX J sb.heap->WP S A (pyIter x) (jh S A t pX J sb Q) hS->A_ S A t W s Q x hS
inductive Ad(S:aW)(C D:Addr)(pX:Wd)(hS:Shared)(Q:MV->MH->Prop)(s':Shared):Prop
 |mk{W' m bH mv}:Heap.Ns s'.heap C m->Apart [C] W' s'.heap->Rel S W' bH s'.heap->aF S W' mv (.ref D)->dt [] pX hS W' s'->Q mv bH->Ad S C D pX hS Q s'
def mn.mono{sc:Sc}(k:∀{x},eS sc x=true->eS sc' x=true)(h:mn aa sc tg t):mn aa sc' tg t:=
 h.casesOn (λh=>.one (h.casesOn λa b=>.mk a (k b))) λh=>.many (jy.rec .nil (λh Z i=>.cons (h.casesOn λa b=>.mk a (k b)) i) h)
def jy.Yn{sc:Sc}(h:jy aa sc is xs):∀i∈is,∀x,aa[i]?=some x->eS sc x=true:=
 jy.rec (λZ m=>ak m d6) (λh Z c j m y e=>(hH m).elim (λq=>h.casesOn λa b=>aj (ag (q▸e) a)▸b) λm=>c j m y e) h
def mn.Yn{sc:Sc}(h:mn aa sc tg t):∀i∈fb tg,∀x,aa[i]?=some x->eS sc x=true:=
 h.casesOn (λh j m y e=>h.casesOn λa b=>aj (ag (d5 m▸e) a)▸b) λh=>h.Yn
def tR(o:jT aa ab.scope.names is scope)(K:ab.scope.kind= .function)(h:eS scope.names x=true):(relabel scope ab).names.lookup x=some .local:=by
 refine rX (lO K) ?_;rw[rk];rcases LB h with e|e
 ·exact rX e rfl
 ·exact az (o.2.2.2 (mem_of_lookup e))
def LK{cl:List (Str×Addr)}(o:jT aa ab.scope.names is scope)(K:ab.scope.kind= .function)(H:mn aa scope.names tg t):mn aa (compEnvC scope cl C ab).scope.names tg t:=
 H.mono λ{x} h=>by
  unfold eS;exact rX (tR o K h) rfl
def HA{cl:List (Str×Addr)}(o:jT aa ab.scope.names is scope)(K:ab.scope.kind= .function)(h:mn aa scope.names tg t):qs aa (compEnvC scope cl C ab) (fb tg) [C]:=
 ⟨λH a=>⟨lB rfl,λb Z=>nomatch ag (tR o K (h.Yn _ H _ a)) b⟩⟩
def CompEnd.adopt(H:hS.heap.get? D=none)(d:hS.heap.get? C=none)(h:D≠C)(q:CompEnd S C D pX hS (tj Q) r s'):Ad S C D pX hS Q s':=
 q.casesOn λ{W m J l s} g c A R L f e=>
 have n2{a o}(q:hS.heap.get? a=some o)(m:a∈[D,C]):False:=ot (P:=λa=>hS.heap.get? a=some o->False) m (fj H) (fj d) q
 .mk (W':=W.add D) (mv:=.lst J.length) g (λ{b} m=>⟨(A m).1,λq=>(iZ q).elim (A m).2.1 λq=>h (ag (d5 q) (d5 m)),(A m).2.2⟩)
  (L.casesOn λi j=>R.KP (c (lB rfl)).2.1 id (.list (c (lB rfl)).2.2 i (j.mono (W.oe D) _ _) (lM e).1)) (Rf.mk (Wd.add_get R.len D))
  (.mk ⟨f.sub.trans (W.oe D),λq n Z=>f.keep q n (n2 q),f.live,λm=>(iZ m).elim f.oc λm=>.inr (d5 m▸H),f.ra,bt f.len (length_append.symm▸ar ..)⟩ f.toSh) (lM e).2
def aaI(h:hS.heap.get? C=none)(A:Apart [C] W' s'.heap)(R:Rel S W' J s'.heap)(f:dt [] pX hS W' s')(H:Heap.SameBut C s'.heap h'):Rel S W' J h'/\dt [] pX hS W' {s' with heap:=h',toks:=t}:=
 have k{a o}(n:a∉[C])(e:s'.heap.get? a=some o):h'.get? a=some o:=(H.2 a (AW n)).trans e
 ⟨R.apart A k,.mk (dW.finish (f.todW.mono λm=>ak m d6) k λm=>tQ (P:=λa=>hS.heap.get? a=none) m h) ⟨f.gens,f.drawn,f.os⟩⟩
def LM{p:Str×Addr}(h:(p.1,p.2)∈ab.cells)(e:p.2=a):a∈cP ab:=e▸vP h
def qv(f:dt [] W s W' s')(e:s'.heap.get? a=none):s.heap.get? a=none:=f.live e
def HB
  (hh:A.handled=none)(K:xY ab)(j:jT aa ab.scope.names (fb tg) scope)(E:mn aa scope.names tg t)(X:tg.nd)
  (hT:∀{c:Env},c.scope.names=eA ab.scope.names scope.names->xd S A aa c (tests fs c) A')(hE:∀{c:Env},c.scope.names=eA ab.scope.names scope.names->ug S A aa c (eval x c) elt)
  (r:dK S aa ab W af s.heap)(R:Rel S W J s'.heap)(f:dt [] W s W s')(d:gr S A t it Y wk wk.len W T)(G:T 0 s'.heap)(h:Apart Y W s'.heap)(k:∀{a},a∈Y->s.heap.get? a=none)(hN:wk.len<=cL)
  (e:jC wk tg A' elt af wk.len 0 J (tj Q))(n:s'.heap.get? D=none)(N:s'.heap.get? C=none)(u:D≠C)(b:∀{a o},s'.heap.get? a=some o->tS.get? a=some o)(L:tS.get? D=some (so "list" #[] 0))(v:∃g,tS.Ns C g)
  (fin:∀{i},Ad S C D W s Q i->compPost (model pw S.w) A (λZ Z=>False) use P' (.ref D) C (.ok .next) i):
  codeAny (model pw S.w) A (.compStart (.ListComp x [⟨t,mw,fs,0⟩] scope pos) 0 (.ref it) (.ref D) (compEnvC scope (closed ab scope.names) C ab)) (compPost (model pw S.w) A (λZ Z=>False) use P' (.ref D) C) {s' with heap:=tS,toks:=tk}:=
 v.elim λg v=>
 have V:dt [] W s' W {s' with heap:=tS,toks:=tk}:=rd b;have y:Apart [D] W tS:=λm=>tQ (P:=λa=>tS.get? a≠none/\a∉W.ls/\W.fz a=none) m ⟨cD L,R.ue n,R.qp n⟩;have B:Apart [C] W tS:=λm=>tQ (P:=λa=>tS.get? a≠none/\a∉W.ls/\W.fz a=none) m ⟨(ns_obj v).elim λZ w=>cD w,R.ue N,R.qp N⟩;have r2:=r.step f.todW λZ=>d6;have ow{a}(m:a∈cP (compEnvC scope (closed ab scope.names) C ab)):a=C\/a∈cP ab:=(hH m).imp id λm=>(i4 m).elim λp z=>LM (mem_of_lookup (j7 (sv j r) z.1).2) z.2
 have H:sy S A aa (compEnvC scope (closed ab scope.names) C ab) Y D T W s wk tg A' elt wk.len t x fs it:=
  ⟨hh,d,LK j K.kind E,X,HA j K.kind E,λm=>(h m).1 n,λm=>(ow m).elim u λm=>(r2.ap m).1 n,λm q=>(ow q).elim (λq=>(h m).1 (q▸N)) λq=>(r.ap q).1 (k m),k,hN,hT (lO K.kind),hE (lO K.kind)⟩
 have l:=Dz H e
  ⟨d.1 G λZ Z e=>b e,Apart.step h V.todW,y,⟨⟨j.1,K.glob,K.boot⟩,Hw K.kind j r2 b v B,(R.keeps b)⟩,.mk L rfl,(f.trans V).wide⟩
 codeAny_mono (codeAny_compStart_list l (wpAny_mono (d.2.2.2 (d.1 G λZ Z e=>b e) l) (λZ Z e=>e) j8)) λr i q=>
  have a:=CompEnd.adopt (qv f n) (qv f N) u q
  q.casesOn (λZ Z Z Z Z Z Z a=>fin a) a
def Ba{l:List (α×β)}(h:p∈l)(H:p.2=k):(p.1,k)∈l:=H▸h
abbrev zh(S:aW)(A:Around)(v:List Str)(ab:Env)(s:Scope)(T:Tg)(o:PT)(e:PE)(t x i:Expr)(f:List Expr):Prop:=A.handled=none/\jT v ab.scope.names (fb T) s/\mn v s.names T t/\T.nd/\(∀x,foldedSetIterable i ab x=Pure.pure x)/\(∀{c:Env},c.scope.names=eA ab.scope.names s.names->xd S A v c (tests f c) o)/\∀{c:Env},c.scope.names=eA ab.scope.names s.names->ug S A v c (eval x c) e
def vT(X:zh S A aa ab scope tg A' elt t x mw fs)(P:Pre S aa ab W af J s)
  (g:WP S A (eval mw ab) (A_ S A t W s λw J=>mJ w tg A' elt af w.len 0 J (tj Q)) s)
  (fin:∀{c hS s' D C},dt [] W s c hS->hS.heap.get? C=none->D≠C->Ad S C D c hS Q s'->compPost (model pw S.w) A (λZ Z=>False) use P' (.ref D) C (.ok .next) s'):
  WP S A (comprehension (.ListComp x [⟨t,mw,fs,0⟩] scope pos) scope ab pos' (PySem.newList []) false (eval mw ab) use) P' s:=by
 refine wpAny_comprehension_free rfl X.2.2.2.2.1 (qu (sv X.2.1 P.r)) X.2.1.1 (λp j l=>hC X.2.1.2.2.1 (Ba j l)) (g.mono λq=>q.casesOn λ{c sb m} E L w=>w.mono λq=>q.casesOn λ{it Y T k a} n V u v G R2 cN e=>?_);refine wpAny_newObj_type (wpAny_newFunctionEnv (λp j l=>X.2.1.2.2.2 (Ba j l)) (λy hy=>ak hy d6) (λi H h=>?_) X.2.1.1);dsimp only at H h⊢;generalize f:a.heap.push {cls:=.type "list",dict:=none,data:=.seq ([]:List Value).toArray}=H3 at H h⊢;have z:H3.objs.size=a.heap.objs.size+1:=by refine rX f.symm ?_;rw[Heap.size_push]
 have d:a.heap.objs.size≠H3.objs.size:=by exact rX z (cm (ba _))
 have old{b o}(e:a.heap.get? b=some o):i.get? b=some o:=h.extBut b o (rX z (cm (Nat.lt_succ_of_lt (Heap.lt_size e)))) (Heap.get?_push_of_some _ (f▸Heap.get?_push_of_some _ e));have N:a.heap.get? H3.objs.size=none:=fJ (z▸aE _)
 have B:{newEnv scope H3.objs.size ab.globals (closed ab scope.names) ab.qual none .none (some ab) builtinsNs with scope:=relabel scope ab}=compEnvC scope (closed ab scope.names) H3.objs.size ab:=by
  exact rX (P.K.boot).symm rfl
 exact rX B (HB X.1 P.K X.2.1 X.2.2.1 X.2.2.2.1 X.2.2.2.2.2.1 X.2.2.2.2.2.2 (P.to E L).r R2 G n V u v cN (by with_unfolding_all exact e) (fT _) N d old (h.extBut _ _ d (Heap.get?_push_of_some _ (f▸Heap.get?_push_size _ rfl))) ⟨_,H⟩ (fin E (qv G N) d))
def Qn(X:zh S A aa ab scope tg A' elt t x mw fs)(P:Pre S aa ab W af J s)(h:WP S A (eval mw ab) (A_ S A t W s λw J=>mJ w tg A' elt af w.len 0 J (tj Q)) s):
  WP S A (comprehension (.ListComp x [⟨t,mw,fs,0⟩] scope pos) scope ab pos' (PySem.newList []) false (eval mw ab)) (Lq S W s Q) s:=
 vT X P h λf n Z a=>a.casesOn λ{W' m bH mv} H b R r c e=>⟨m,H,λZ d=>have z:=aaI n b R c d;.mk (f.trans z.2) z.1 r e⟩
def Pre.keeps{t:Nat}(P:Pre S aa ab W af J s)(R:Rel S W J h')(k:∀{a},a∈cP ab->∀{o},s.heap.get? a=some o->h'.get? a=some o):Pre S aa ab W af J {s with heap:=h',toks:=t}:=
 ⟨P.K,P.r.move (.refl W) (Apart.keep P.r.ap k) λm Z e=>k m e,R⟩
def Bb{K:Loc->MH->Prop}(X:zh S A aa ab scope tg A' elt t x mw fs)(P:Pre S aa ab W af J s)(H:nB aa ab.scope.names i y)
  (h:WP S A (eval mw ab) (A_ S A t W s λw J=>mJ w tg A' elt af w.len 0 J (tj λm J=>K (af.set i (some m)) J)) s):
  WP S A (comprehension (.ListComp x [⟨t,mw,fs,0⟩] scope pos) scope ab pos' (PySem.newList []) false (eval mw ab) (some (assign y ab))) (λZ=>Ls S aa ab (cP ab) W s K) s:=
 vT X P h λ{_ c z D C} f N _ a=>a.casesOn λ{W' m bH mv} p d R r g e=>
 have l:=λq=>((P.r.step f.todW λZ=>d6).ap q).1 N
 (vR .all ((P.to (f.trans g) R)) H r e).mono λq=>q.casesOn λ{W2 _ _} b P2 e=>
 ⟨m,p.at λo e=>b.keep e (d (lB rfl)).2.1 l,λu v=>
  have j:Apart [C] W2 _:=Apart.step d b.todW;have k{a o}(n:a∉[C])(e:Heap.get? _ a=some o):u.get? a=some o:=(v.2 a (AW n)).trans e
  .mk (.mk (f.wide.todW.trans (dW.finish ((g.wide.trans b).todW.mono λm=>rL (.inl m)) k λm=>tQ (P:=λa=>c.heap.get? a=none) m N)) (f.toSh.trans (g.toSh.trans ⟨b.gens,b.drawn,b.os⟩)))
   (P2.keeps (P2.R.apart j k) λm Z e=>k (λq=>l (d5 q▸m)) e) e⟩
noncomputable def sz(n:Str):List Str->Nat->Option Nat
 |[],_=>none
 |x::l,i=>match seq x n with|true=>some i|false=>sz n l (i+1)
noncomputable def eF(sc:Sc)(x:Str):Bool:=sc.lookup x==some .globalImplicit
noncomputable def DA(x:Expr)(N:Str->α)(T:List Expr->α)(A:Expr->Str->Pos->α)(s:Expr->Expr->α)(c:Expr->List Expr->List Keyword->α)(S:Option Expr->Option Expr->Option Expr->α)(o:α):α:=match x with
 | .Name n _=>N n
 | .Tuple xs _ _=>T xs
 | .Attribute e n p=>A e n p
 | .Subscript a b _=>s a b
 | .Call f xs k _=>c f xs k
 | .Slice l u t _=>S l u t
 |_=>o
def DB(x:Expr)(k:Str->α)(o:α):α:=DA x k (λZ=>o) (λZ Z Z=>o) (λZ Z=>o) (λZ Z Z=>o) (λZ Z Z=>o) o
def S2(x:Expr)(k:List Expr->α)(o:α):α:=DA x (λZ=>o) k (λZ Z Z=>o) (λZ Z=>o) (λZ Z Z=>o) (λZ Z Z=>o) o
def Yo(x:Expr)(k:Expr->Str->Pos->α)(o:α):α:=DA x (λZ=>o) (λZ=>o) k (λZ Z=>o) (λZ Z Z=>o) (λZ Z Z=>o) o
def onS(x:Expr)(k:Expr->Expr->α)(o:α):α:=DA x (λZ=>o) (λZ=>o) (λZ Z Z=>o) k (λZ Z Z=>o) (λZ Z Z=>o) o
def Qo(x:Expr)(k:Expr->List Expr->List Keyword->α)(o:α):α:=DA x (λZ=>o) (λZ=>o) (λZ Z Z=>o) (λZ Z=>o) k (λZ Z Z=>o) o
def onL(x:Expr)(k:Option Expr->Option Expr->Option Expr->α)(o:α):α:=DA x (λZ=>o) (λZ=>o) (λZ Z Z=>o) (λZ Z=>o) (λZ Z Z=>o) k o
noncomputable def DE(n m:Nat):Bool:=!(Nat.beq n m)
def notStar(x:Expr):Bool:=DE x.ctorIdx 22
def lP(x:Expr):Bool:=DE x.ctorIdx 7
def iV(x:Expr):Bool:=DE x.ctorIdx 26
def hF(x:Expr):Bool:=DE x.ctorIdx 8&&DE x.ctorIdx 9&&DE x.ctorIdx 10
def mx(x:Expr):Bool:=DE x.ctorIdx 16
def gE(b:Bool)(e:PE):PE:=match b with|true=>e|false=>dk
def gT(b:Bool)(e:PT):PT:=match b with|true=>e|false=>λZ Z Z=>False
def gS(b:Bool)(e:PS):PS:=match b with|true=>e|false=>gL
def zi(c:Const):PE:=match c with
 | .none=>eC .none
 | .bool b=>eC (.bool b)
 | .int i=>eC (.int i)
 | .str s=>eC (.str s)
 |_=>dk
section
variable(C:au)(aa:List Str)
def isVar(sc:Sc)(n:Str):Bool:=uF sc n&&mW n
def F0(sc:Sc)(n:Str):PE:=match sz n aa 0 with
 |some i=>gE (isVar sc n) (eV i)
 |none=>dk
def LN(sc:Sc)(n:Str):PE:=match fN kf n with
 |some v=>gE (eF sc n) (eC v)
 |none=>dk
def zj(sc:Sc)(n:Str):PE:=match eF sc n with|true=>LN sc n|false=>F0 aa sc n
noncomputable def F1(o:Operator):Option Bo:=match o with
 | .Add=>some .add
 | .Sub=>some .sub
 | .Mult=>some .mul
 | .FloorDiv=>some .fdiv
 | .Mod=>some .mod
 | .Pow=>some .pow
 |_=>none
noncomputable def vU(o:BoolOp):List PE->PE
 |[]=>dk
 |e::l=>match l with|[]=>e|_=>(match o with| .And=>jw e (vU o l)| .Or=>OE e (vU o l))
noncomputable def vV(o:BoolOp):List PT->PT
 |[]=>λZ Z Z=>False
 |e::l=>match l with|[]=>e|_=>(match o with| .And=>gZ e (vV o l)| .Or=>l9 e (vV o l))
noncomputable def pj:List CmpOp->List PE->yw
 |[],_=>λZ Z Z Z=>False
 |o::os,es=>match es with
  |[]=>λZ Z Z Z=>False
  |e::es=>(match os with|[]=>(match es with|[]=>c1 o e|_=>λZ Z Z Z=>False)|_=>(match es with|[]=>λZ Z Z Z=>False|_=>c2 o e (pj os es)))
noncomputable def vW:List Str:=["append","extend","pop"]
noncomputable def Yp:List Bm:=[.append,.extend,.pop]
noncomputable def k_get:Str:="get"
noncomputable def getOf(k:Nat):Option Bm:=match k with|1=>some .nj|2=>some .l7|_=>none
def F2(n:Str)(k:Nat):Option Bm:=match look vW Yp n with
 |some b=>some b
 |none=>match seq n k_get with
  |true=>getOf k
  |false=>none
def LO(sc:Sc)(E:Sc->Expr->PE)(xs:List Expr):PE:=match xs with
 |[]=>dk
 |y::l=>match l with
  |[]=>dk
  |z::l=>match l with
   |[]=>DB z (λn=>match look mf tys n with|some t=>gE (eF sc n&&notStar y) (nq (E sc y) t)|none=>dk) dk
   |_=>dk
def zk(sc:Sc)(E:Sc->Expr->PE)(n:Str)(xs:List Expr):PE:=match seq n nW with
 |true=>LO sc E xs
 |false=>match look nV Jp n with
  |some b=>gE (xs.all notStar) (df b (xs.map (E sc)))
  |none=>match fN kf n with
   |some v=>(match v with| .fn f=>gE (xs.all notStar) (aq C f (xs.map (E sc)))|_=>dk)
   |none=>dk
def F3(sc:Sc)(E:Sc->Expr->PE)(xs:List Expr)(p:Pos)(o:Expr)(n:Str)(a:Pos):PE:=gE (a.endLine==p.line&&mx o&&xs.all notStar&&decide (xs.length<30)) (match F2 n xs.length with
   |some b=>d4 b (E sc o) (xs.map (E sc))
   |none=>match sz n iG 0 with
    |some m=>dS C m (E sc o) (xs.map (E sc))
    |none=>dk)
def zl(sc:Sc)(E:Sc->Expr->PE)(xs:List Expr)(n:Str):PE:=match eF sc n with
   |true=>zk C sc E n xs
   |false=>gE (xs.all notStar) (oQ C (F0 aa sc n) (xs.map (E sc)))
def DF(sc:Sc)(E:Sc->Expr->PE)(f:Expr)(xs:List Expr)(k:List Keyword)(p:Pos):PE:=match k with
 |[]=>DB f (zl C aa sc E xs) (Yo f (F3 C sc E xs p) dk)
 |_=>dk
def vX(sc:Sc)(E:Sc->Expr->PE)(x:Option Expr):PE:=match x with|some x=>E sc x|none=>eC .none
def LP(sc:Sc)(E:Sc->Expr->PE)(o i:Expr):PE:=onL i (λl u t=>match t with|none=>nE (E sc o) (vX sc E l) (vX sc E u)|some _=>dk) (a7 (E sc o) (E sc i))
def iy(sc:Sc)(x:Expr):Option Nat:=DB x (λn=>match eS sc n with|true=>sz n aa 0|false=>none) none
def Yq(sc:Sc)(t:Expr):Option Tg:=match iy aa sc t with|some i=>some (.one i)|none=>none
def tgM(sc:Sc)(t:List Expr):Option Tg:=match dM (iy aa sc) t with|some i=>some (.many i)|none=>none
def pY(sc:Sc)(t:Expr):Option Tg:=S2 t (tgM aa sc) (Yq aa sc t)
noncomputable def HC:List Nat->Bool
 |[]=>true
 |i::l=>!(l.contains i)&&HC l
noncomputable def mX(k:Ik)(t:Tg):Bool:=match k with
 | .enum=>(match t with| .one _=>false|_=>true)
 | .zip=>(match t with| .one _=>false|_=>true)
 |_=>true
noncomputable def ckB(sc:Sc)(a:List Nat)(p:Str×NameKind):Bool:=match p.2 with
 | .local=>p.1==(".0" :Str)||a.any λi=>aa[i]?==some p.1
 | .free=>sc.lookup p.1==some .cell||sc.lookup p.1==some .free
 | .cell=>false
 |_=>true
def rm(sc:Sc)(i:List Nat)(s:Scope):Bool:=s.kind== .function&&!(c7 ".0" aa)&&yK (s.names.map (·.1))&&s.names.all (ckB aa sc i)
def pk(sc:Sc)(E:Sc->Expr->PE)(i:Expr):Ik×List PE×Bool:=(.plain,[E sc i],lP i)
def ji(sc:Sc)(E:Sc->Expr->PE)(i:Expr):Ik×List PE×Bool:=Qo i (λf xs a=>DB f (λn=>match look k9 vf n with
   |some k=>(k,xs.map (E sc),isNil a&&eF sc n&&xs.all notStar)
   |none=>pk sc E i) (pk sc E i)) (pk sc E i)
def qw(sc:Sc)(E:Sc->Expr->PE)(T:Sc->Expr->PT)(x:Expr)(G:List Comprehension)(s:Scope):PE:=match G with
 |[]=>dk
 |g::G=>match G with
  |[]=>(match pY aa s.names g.target with
   |some t=>(match ji sc E g.iter with
    |(k,src,b)=>gE (b&&g.is_async==0&&HC (fb t)&&mX k t&&rm aa sc (fb t) s)
      (fO (E (eA sc s.names) x) t k src (g.ifs.map (T (eA sc s.names)))))
   |none=>dk)
  |_=>dk
def LQ(E:Sc->Expr->PE)(T:Sc->Expr->PT)(sc:Sc)(x:Expr):PE:=match x with
 | .Constant c _ _=>zi c
 | .Name n _=>zj aa sc n
 | .Tuple xs _ _=>gE (xs.all notStar&&decide (xs.length<30)) (cj (xs.map (E sc)))
 | .List xs _=>gE (xs.all notStar) (bY (xs.map (E sc)))
 | .Dict ks vs _=>(match ks with|[]=>(match vs with|[]=>Ce|_=>dk)|_=>dk)
 | .Attribute o n _=>(match sz n fieldNames 0 with|some k=>gE (mx o) (ah (E sc o) k)|none=>dk)
 | .Subscript o i _=>LP sc E o i
 | .BinOp a o b _=>(match F1 o with|some o=>aX o (E sc a) (E sc b)|none=>dk)
 | .UnaryOp o a _=>(match o with| .USub=>l8 (E sc a)| .Not=>zZ (E sc a)|_=>dk)
 | .BoolOp o xs _=>vU o (xs.map (E sc))
 | .Compare a os ys _=>gE (ys.all lP) (fv (E sc a) (pj os (ys.map (E sc))))
 | .IfExp c a b _=>jr (T sc c) (E sc a) (E sc b)
 | .Call f xs ks pos=>DF C aa sc E f xs ks pos
 | .ListComp x gs scope _=>qw aa sc E T x gs scope
 |_=>dk
def stT(e E:Sc->Expr->PE)(T:Sc->Expr->PT)(sc:Sc)(x:Expr):PT:=match x with
 | .UnaryOp o a _=>(match o with| .Not=>lF (T sc a)|_=>tE (e sc x))
 | .BoolOp o xs _=>vV o (xs.map (T sc))
 | .IfExp c a b _=>tIf (T sc c) (T sc a) (T sc b)
 | .Compare a os ys _=>gT (ys.all lP) (aJ (E sc a) (pj os (ys.map (E sc))))
 |x=>tE (e sc x)
structure DP where
 e:Sc->Expr->PE
 t:Sc->Expr->PT
noncomputable def den:Nat->DP
 |0=>⟨λZ Z=>dk,λZ Z Z Z Z=>False⟩
 |n+1=>⟨LQ C aa (den n).e (den n).t,stT (LQ C aa (den n).e (den n).t) (den n).e (den n).t⟩
noncomputable def vY(sc:Sc):Env:={scope:={kind:=.function,names:=sc,isGenerator:=false,isCoroutine:=false},locals:=0,globals:=0,cells:=[]}
def F4(sc:Sc)(E:Sc->Expr->PE)(x:Expr):Option Mt:=onS x (λo i=>match iV i with|true=>some (.sub (E sc o) (E sc i))|false=>none) (match iy aa sc x with|some i=>some (.name i)|none=>none)
noncomputable def vZ(t:Mt):Option Str:=match t with| .name i=>aa[i]?|_=>none
def zm(sc:Sc)(t:List Mt)(x v:Expr):Bool:=match pureOf (swappedStores [x] v (vY sc))with
 |some o=>(match o with
  |none=>true
  |some n=>(match dM (vZ aa) t with|some ns=>n==ns&&yK n|none=>false))
 |none=>false
def LR(sc:Sc)(E:Sc->Expr->PE)(v o i:Expr):PS:=gS (hF v&&iV i) (gK (E sc o) (E sc i) (E sc v))
def DG(sc:Sc)(E:Sc->Expr->PE)(t v:Expr)(xs:List Expr):PS:=match dM (F4 aa sc E) xs with
  |some T=>gS (hF v&&zm aa sc T t v) (sU T (E sc v))
  |none=>gL
def DH(sc:Sc)(E:Sc->Expr->PE)(t v:Expr):PS:=match iy aa sc t with|some i=>sA i (E sc v)|none=>gL
def LS(sc:Sc)(E:Sc->Expr->PE)(t v:Expr):PS:=onS t (LR sc E v) (S2 t (DG aa sc E t v) (DH aa sc E t v))
noncomputable def LU(l:List α)(k:α->β)(o:β):β:=match l with|[]=>o|a::l=>(match l with|[]=>k a|_=>o)
noncomputable def aaJ(s:Stmt)(k:List Expr->Expr->α)(o:α):α:=match s with| .Assign ts v _=>k ts v|_=>o
noncomputable def gu(f:Stmt->PS):List Stmt->PS
 |[]=>sN
 |s::l=>match l with|[]=>f s|_=>sS (f s) (gu f l)
def stS(D:DP)(sc:Sc)(f:Stmt->PS)(s:Stmt):PS:=match s with
 | .Expr x _=>Qo x (λZ Z Z=>sE (D.e sc x)) gL
 | .Assign ts v _=>LU ts (λt=>LS aa sc D.e t v) gL
 | .Return x _=>(match x with|some x=>sR (D.e sc x)|none=>gL)
 | .If c a b _=>sI (D.t sc c) (gu f a) (gu f b)
 | .For t it b l _=>(match pY aa sc t with
  |some T=>(match ji sc D.e it with
   |(k,src,q)=>gS (q&&mX k T&&isNil l) (sF T k src (gu f b)))
  |none=>gL)
 | .While c b l _=>gS (isNil l) (sW (D.t sc c) (gu f b))
 | .Continue _=>rM
 |_=>gL
noncomputable def LV(D:DP)(sc:Sc):Nat->Stmt->PS
 |0=>λZ=>gL
 |n+1=>stS aa D sc (LV D sc n)
end
def Bc(C:au)(aa:List Str)(sc:Sc)(l:List Stmt):PS:=gu (LV aa (den C aa 24) sc 12) l
def LW(D:DP)(sc:Sc)(S f:Str)(s:Stmt):PE:=aaJ s (λT v=>LU T (λt=>Yo t (λo g Z=>DB o (λn=>gE (seq n S&&seq g f&&hF v) (D.e sc v)) dk) dk) dk) dk
noncomputable def x5(D:DP)(sc:Sc)(S:Str):List Stmt->List Str->List PE
 |[],_=>[]
 |s::l,fs=>(match fs with|[]=>dk|f::_=>LW D sc S f s)::x5 D sc S l (fs.drop 1)
def Over(S:aW)(W:Wd):Prop:=∀{a o},S.h₀.get? a=some o->W.fz a=some o
abbrev Qp(S:aW)(m:Str->Option Value)(x:Str)(mv:MV):Prop:=(x==("__debug__" :Str))=false/\∃v,m x=some v/\∀{W},Over S W->aF S W mv v
abbrev aaK(m a:Str->Option Value)(x:Str)(v:Value):Prop:=(x==("__debug__" :Str))=false/\m x=none/\a x=some v
abbrev Nms(S:aW)(m a:Str->Option Value):Prop:=S.h₀.Ns mainGlobals m/\S.h₀.Ns builtinsNs a/\(∀{x mv},fN kf x=some mv->Qp S m x mv)/\∀{x v},(x,v)∈qc->aaK m a x v
abbrev xf(S:aW):Prop:=S.K.In S.h₀/\(∃m a,Nms S m a)/\SS S
abbrev LX(S:aW)(c f:Nat)(n:Str):Prop:=findIn S.K (.ref (dD c)) n=some (some (.ref (c5 f)))/\typeIn S.K (.ref (c5 f))=some (.type "function")/\∀vs:List Value,((eu c).zip vs).lookup n=none
abbrev LY(S:aW)(c i:Nat)(n:Str):Prop:=findIn S.K (.ref (dD c)) n=some none/\∀{vs:List Value},(eu c).length=vs.length->((eu c).zip vs).lookup n=vs[i]?
abbrev ClsAt(S:aW)(c:Nat):Prop:=(∃cd,clsIn S.K (dD c)=some cd/\cd.hasDict=true)/\findIn S.K (.ref (dD c)) "__getattribute__" =some (some (.builtin "object.__getattribute__"))/\findIn S.K (.ref (dD c)) "__getattr__" =some none
abbrev F5(S:aW):Prop:=(∀{c},c<4->ClsAt S c)/\(∀{c k i n},fieldOf c k=some i->fieldNames[k]?=some n->LY S c i n)/\∀{c m f n},lE c m=some f->iG[m]?=some n->LX S c f n
def tU(S:aW)(f:Nat):Prop:=∃o a,S.h₀.get? (c5 f)=some o/\o.data= .func a
def tV(S:aW)(f:Nat):Prop:=∃o cd,S.h₀.get? (c5 f)=some o/\o.data= .cls cd/\specialIn S.K (.ref (c5 f)) "__call__" =some (some (.builtin "type.__call__"))
abbrev LZ(S:aW)(C:au)(d:Nat):Prop:=(∀{A f ms vs W J s Q},f3 A d->Rel S W J s.heap->aC S W ms vs->C f ms J Q->WP S A (PySem.call (.ref (c5 f)) vs) (Lq S W s Q) s)/\∀{f ms J Q},C f ms J Q->tU S f\/tV S f
structure Cx(S:aW)(C:au)(d:Nat):Prop where
 G:xf S
 H:F5 S
 O:∀{A f ms vs W J s Q},f3 A d->Rel S W J s.heap->aC S W ms vs->call C f ms J Q->WP S A (PySem.call (.ref (c5 f)) vs) (Lq S W s Q) s
 kind:∀{f ms J Q},call C f ms J Q->tU S f\/tV S f
abbrev a9(S:aW)(d:Nat)(v:List Str)(sc:Sc)(x:Expr)(e:PE):Prop:=∀{A ab},f3 A d->ab.scope.names=sc->ug S A v ab (eval x ab) e
abbrev gD(S:aW)(d:Nat)(v:List Str)(sc:Sc)(x:Expr)(t:PT):Prop:=∀{A ab},f3 A d->ab.scope.names=sc->xd S A v ab (isTrue x ab (eval x ab)) t
abbrev Lqn(S:aW)(W:Wd)(s:Shared)(Q:List MV->MH->Prop)(n:Nat)(vs:List Value)(a:Shared):Prop:=vs.length=n/\KS S W s Q vs a
abbrev SoL(S:aW)(A:Around)(v:List Str)(ab:Env)(n:Nat)(x:Sem (List Value))(e:PL):Prop:=∀{W af J s Q},Pre S v ab W af J s->e af J Q->WP S A x (Lqn S W s Q n) s
section
variable{sc:Sc}
def cq:a9 S d aa sc x dk:=λZ Z=>λZ e=>az e
def iz(h:b=true->a9 S d aa sc x e):a9 S d aa sc x (gE b e):=b.casesOn (λZ=>cq) (λh=>h rfl) h
def Qq(h:b=true->gD S d aa sc x t):gD S d aa sc x (gT b t):=b.casesOn (λZ=>λZ Z=>λZ e=>az e) (λh=>h rfl) h
theorem kQ:∀{a:List Str}{vs:List α},look a vs n=some v->(n,v)∈a.zip vs
 |[],_=>λe=>nn e
 |_::_,[]=>λe=>nn e
 |k::a,w::vs=>λe=>by
  replace e:(match seq k n with|true=>some w|false=>look a vs n)=some v:=e;cases q:seq k n with
  |true=>rw[q]at e;exact rX (seq_eq q) (rX (aj e) (eE))
  |false=>rw[q]at e;exact fg (kQ e)
theorem F6:∀{l:List Str}{k i:Nat},sz n l k=some i->∃j,i=k+j/\l[j]?=some n
 |[]=>λe=>nn e
 |x::l=>λe=>by
  replace e:(match seq x n with|true=>some _|false=>sz n l (_+1))=some _:=e;cases q:seq x n with
  |true=>rw[q]at e;exact⟨0,(aj e).symm,congrArg some (seq_eq q)⟩
  |false=>rw[q]at e;exact(F6 e).elim λj z=>⟨j+1,z.1.trans (Nat.succ_add _ j),z.2⟩
def zo(e:sz n l 0=some i):l[i]?=some n:=(F6 e).elim λj z=>(z.1.trans (aD j))▸z.2
def x6{x:Str}(h:eF sc x=true):sc.lookup x=some .globalImplicit:=eq_of_beq h
def F7{x:Str}(G:xf S)(P:Pre S aa ab W af J s)(H:eF ab.scope.names x=true)(e:fN kf x=some mv)(q:∀{v},aF S W mv v->Q v s):WP S A (eval (.Name x pos) ab) Q s:=
 G.2.1.elim λm h=>h.elim λa N=>have g:=N.2.2.1 e;g.2.elim λv z=>Name_function_global P.K.kind (x6 H) (loadGlobal_global (P.K.glob▸N.1.keeps λZ Z e=>P.R.fz (P.R.base e)) z.1 (q (z.2 P.R.base))) g.1
def F8{x:Str}(G:xf S)(P:Pre S aa ab W af J s)(H:eF ab.scope.names x=true)(e:(x,v)∈qc)(q:Q v s):WP S A (eval (.Name x pos) ab) Q s:=
 G.2.1.elim λm h=>h.elim λa N=>have g:=N.2.2.2 e;Name_function_global P.K.kind (x6 H) (loadGlobal_builtin (P.K.glob▸N.1.keeps λZ Z e=>P.R.fz (P.R.base e)) g.2.1 (P.K.boot▸N.2.1.keeps λZ Z e=>P.R.fz (P.R.base e)) g.2.2 q) g.1
def snd_const:a9 S d aa sc (.Constant c k pos) (zi c):=λZ Z=>λP e=>by
 cases c with
 |none=>exact ao (.here P.R rn e)
 |bool b=>exact ao (.here P.R rb e)
 |int i=>exact wpAny_mkInt (.same P.R ri e)
 |str i=>exact wpAny_mkText (.same P.R gC e)
 |_=>exact az e
def Be:a9 S d aa sc (.Name n pos) (F0 aa sc n):=by
 unfold F0;cases q:sz n aa 0 with
 |none=>exact cq
 |some i=>exact iz λh=>λZ H=>λP e=>have h:=aA h;Qb P (zo q) (H.symm▸h.1) h.2 e
def HE(G:xf S):a9 S d aa sc (.Name n pos) (zj aa sc n):=by
 unfold zj;cases eF sc n with
 |false=>exact Be
 |true=>
  unfold LN;cases q:fN kf n with
  |none=>exact cq
  |some v=>exact iz λh=>λZ H=>λP e=>F7 G P (H.symm▸h) q λr=>.here P.R r e
def mY(h:notStar x=true):starEach (x::xs) ab=(false,eval x ab)::starEach xs ab:=by
 cases x<;>first|rfl|exact ft h
def jJ:∀{xs:List Expr},xs.all notStar=true->(backTo pos (starEach xs ab)).any (·.1)=false:=by
 intro m;induction m with
 |nil=>exact λZ=>rfl
 |cons x xs i=>
  intro h;exact rX (mY (aA h).1) (i (aA h).2)
def HF:∀{xs:List Expr},xs.all notStar=true->(backTo pos (starEach xs ab)).all (λx=>!x.1)=true:=by
 intro m;induction m with
 |nil=>exact λZ=>rfl
 |cons x xs i=>
  intro h;exact rX (mY (aA h).1) (i (aA h).2)
theorem hM{E:Sc->Expr->PE}(H:∀x,a9 S d aa sc x (E sc x))(a:f3 A d)(b:ab.scope.names=sc):∀{xs:List Expr},xs.all notStar=true->SoL S A aa ab xs.length (spliced (backTo pos (starEach xs ab))) (eL (xs.map (E sc)))
 |[]=>λZ=>λP e=>spliced_nil ⟨rfl,.mk (m:=[]) (.refl ..) P.R rfl e⟩
 |x::xs=>λh=>λP e=>rX (mY (aA h).1) (spliced_cons ((H x a b P e).mono λq=>q.casesOn λ{_ _ m} f R r e=>(hM H a b (aA h).2 (P.to f R) e).mono λq=>⟨congrArg (·+1) q.1,q.2.casesOn λ{_ _ g} c i gC e=>.mk (m:=m::g) (f.trans c) i (Cs.mk (r.mono c.sub m _) gC) e⟩))
def L0{E:Sc->Expr->PE}(H:∀x,a9 S d aa sc x (E sc x)):a9 S d aa sc (.Tuple xs k pos) (gE (xs.all notStar&&decide (xs.length<30)) (cj (xs.map (E sc)))):=
 iz λh=>have h:=aA h;λa b=>λP e=>ae (a4 (ae ((hM H a b h.1 P e).mono λq=>q.2.casesOn λf R r e=>WP.pre f (AN R r (r.length▸q.1▸bt (a_ (of_decide_eq_true h.2)) (by decide)) e))))
def L1{E:Sc->Expr->PE}(H:∀x,a9 S d aa sc x (E sc x)):a9 S d aa sc (.List xs pos) (gE (xs.all notStar) (bY (xs.map (E sc)))):=
 iz λh=>λa b=>λP e=>ae (a4 (ae ((hM H a b h P e).mono λq=>q.2.casesOn λf R r e=>WP.pre f (Dg R r e))))
end
structure Oth(x:Expr):Prop where
 e:∀{α:Type}(nm:Str->α)(tu:List Expr->α)(at':Expr->Str->Pos->α)(su:Expr->Expr->α)(ca:Expr->List Expr->List Keyword->α)(sl:Option Expr->Option Expr->Option Expr->α)(o:α),DA x nm tu at' su ca sl o=o
 s:iV x=true
inductive Vx:Expr->Prop
 |nm{n p}:Vx (.Name n p)
 |tu{l a p}:Vx (.Tuple l a p)
 |at'{e n p}:Vx (.Attribute e n p)
 |su{a b p}:Vx (.Subscript a b p)
 |ca{f l k p}:Vx (.Call f l k p)
 |sl{l u t p}:Vx (.Slice l u t p)
 |o{x}:Oth x->Vx x
def vx(x:Expr):Vx x:=by cases x<;>first|exact .nm|exact .tu|exact .at'|exact .su|exact .ca|exact .sl|exact .o ⟨λZ Z Z Z Z Z Z=>rfl,rfl⟩
section
variable{s:Shared}{sc:Sc}{E:Sc->Expr->PE}
def Bf:∀(m:MV){v},aF S W m v->handedIn v=true
 |.none=>λr=>r▸rfl
 |.bool _=>λr=>r▸rfl
 |.fn _=>λr=>r▸rfl
 |.int _=>λr=>Ii.casesOn r rfl
 |.str _=>λr=>Is.casesOn r rfl
 |.tup _=>λr=>Sq.casesOn r λZ Z Z=>rfl
 |.aQ _=>λr=>Sq.casesOn r λZ Z Z=>rfl
 |.obj _ _=>λr=>Ob.casesOn r λZ Z Z Z Z=>rfl
 |.lst _=>λr=>Rf.casesOn r λZ=>rfl
 |.iD _=>λr=>Rf.casesOn r λZ=>rfl
 |.dZ _ _=>λr=>Sd.casesOn r λZ Z Z Z Z=>rfl
theorem uH:∀{l:List α}{i:Nat}{x:α},gi l i=some x->i<l.length
 |[],_=>λe=>nn e
 |_::_,0=>λZ=>Nat.succ_pos _
 |_::_,_+1=>λe=>Nat.succ_lt_succ (uH e)
def zp(h:fieldOf c k=some i):c<4:=by
 unfold fieldOf at h;cases e:gi mI c with
 |none=>have h:=e▸h;exact nn h
 |some l=>exact uH e
def zq(h:lE c k=some i):c<4:=by
 unfold lE at h;cases e:gi jW c with
 |none=>have h:=e▸h;exact nn h
 |some l=>exact uH e
inductive S3(S:aW)(W:Wd)(h:Heap)(c:Nat)(l:List MV):Value->Prop
 |mk{a od vs ox}:InstAt h a ox (dD c) (some od)->uE od (eu c) vs->aC S W l vs->(eu c).length=vs.length->S3 S W h c l (.ref a)
def L2(R:Rel S W J s.heap)(r:aF S W (.obj c l) v):S3 S W s.heap c l v:=Ob.casesOn r λa b c d e=>.mk ⟨R.fz a,rfl,rfl,R.fz b⟩ c d e
def HG{K:Frag}{C:Addr}{cd:ClassData}(h:clsIn K C=some cd)(H:findIn K (.ref C) n=some none)(a:PySem.W.ownOf cd od n=some (some w)):findObj K C od n=some (.value w):=by
 show(clsIn K C).bind _=_;refine rX h ?_;refine rX H ?_;show(PySem.W.ownOf cd od n).bind _=_;refine rX a ?_;rfl
def L3(K:ClsAt S c)(f:LY S c i n)(H:uE od (eu c) vs)(a:(eu c).length=vs.length)(e:vs[i]?=some w):findObj S.K (dD c) (some od) n=some (.value w):=
 K.1.elim λZ h=>HG h.1 f.1 ((aO h.2).trans ((H.2 n).trans (congrArg some ((f.2 a).trans e))))
def DI(X:Cx S C d)(R:Rel S W J s.heap)(r:aF S W (.obj c l) v)(h:fieldOf c k=some i)(b:fieldNames[k]?=some n)(e:gi l i=some m)(q:Q m J):
  WP S A (getAttr v n ex) (Lq S W s Q) s:=
 (L2 R r).casesOn λa f j o=>(j.get (vQ l i▸e)).opt.elim λw g=>
 get_value (R.K X.G.1) a (X.H.1 (zp h)).2.1 (L3 (X.H.1 (zp h)) (X.H.2.1 h b) f o g.1) (Bf m g.2) (.same R g.2 q)
def qx(h:mx o=true):attributeBase o n ab w=w:=by cases o<;>first|rfl|exact ft h
def L4(e:Cf k Q m J):∃c l i x,m=.obj c l/\fieldOf c k=some i/\gi l i=some x/\Q x J:=by
 cases m with
 |obj c l=>
  unfold Cf at e;dsimp only at e;cases q:fieldOf c k with
  |none=>rw[q]at e;exact e.elim
  |some i=>
   have e:=q▸e;dsimp only at e;cases z:gi l i with
   |none=>rw[z]at e;exact e.elim
   |some x=>rw[z]at e;exact⟨c,l,i,x,rfl,q,z,e⟩
 |_=>exact az e
def HH(X:Cx S C d)(H:a9 S d aa sc x (E sc x)):a9 S d aa sc (.Attribute x n pos) (match sz n fieldNames 0 with|some k=>gE (mx x) (ah (E sc x) k)|none=>dk):=by
 cases q:sz n fieldNames 0 with
 |none=>exact cq
 |some k=>
  exact iz λh=>λa b=>λP e=>by
   rw[arm_eval_Attribute];refine rX (qx h) ?_;exact WP.L (H a b P e) λf R r e=>(L4 e).elim λc e=>e.elim λl e=>e.elim λi e=>e.elim λy e=>ae (a4 (ae (aU ((DI X R (e.1▸r) e.2.1 (zo q) e.2.2.1 e.2.2.2).mono λq=>ae (wpAny_letTemporaryGo (ao (q.pre f)))))))
end
inductive Yr(i:MV):MV->M MV->Prop
 |d{ks vs}:Yr i (.dZ ks vs) (t9 i λs=>ask (look ks vs s))
 |g{o}:Yr i o (hY i λi=>dj (itemsOf o) λl=>dj (idx l.length i) λk=>ask l[k]?)
def gsk(o i:MV):Yr i o (f6 o i):=by
 unfold f6;cases o<;>first|exact .d|exact .g
section
variable{sc:Sc}{E:Sc->Expr->PE}
def qy(h:iV y=true):subscripted y false o i=operate [o,i] (getItem o i):=by cases y<;>first|rfl|exact ft h
def HI(h:iV y=true)(R:Rel S W J s.heap)(ri:aF S W i vi):aF S W o vo->f6 o i J Q->WP S A (subscriptTail x y vo vi) (Lq S W s Q) s:=
 (gsk o i).casesOn
  (λr e=>(sg e ri).casesOn λ{i t} e=>have w:=y9 R (R.dZ r) e;(R.dZ r).casesOn (λH Z Z Z w=>tail_any H.mapOf.typeIs slot_dict_getitem.lookup w (qy h)) w)
  (λr e=>(ek e ri).casesOn λ{i t} e=>(R.items r e).casesOn λq e=>(K_ e).elim λk e=>(kl e.2.2).elim λZ g=>have w:=Hj R q e.1 e.2.1 g.1 g.2
   q.casesOn (λa Z Z w=>tail_any (IsL.list a).typeIs slot_list_getitem.lookup w (qy h)) (λb Z Z w=>tail_any ⟨_,b,rfl⟩ slot_tuple_getitem.lookup w (qy h)) w)
def my(h:iV y=true)(c:a9 S d aa sc x (E sc x))(g:a9 S d aa sc y (E sc y)):a9 S d aa sc (.Subscript x y pos) (a7 (E sc x) (E sc y)):=λH a=>λP e=>
 Subscript_ ((c H a P e).mono λq=>q.casesOn λ{_ _ m} f R r e=>(g H a (P.to f R) e).mono λq=>q.casesOn λb i r2 e=>(HI h i r2 (r.mono b.sub m _) e).mono (Lq.pre (f.trans b)))
def x7(h:∀x,a9 S d aa sc x (E sc x))(H:f3 A d)(a:ab.scope.names=sc):ug S A aa ab (evalPart l ab) (vX sc E l):=
 l.casesOn (λP e=>ao (.here P.R rn e)) λZ P e=>h _ H a P e
def DJ(h:∀x,a9 S d aa sc x (E sc x)):a9 S d aa sc (.Subscript x (.Slice l u none p) pos) (nE (E sc x) (vX sc E l) (vX sc E u)):=λ{A _} H b=>λP e=>
 Subscript_ ((h x H b P e).mono λ{v _} q=>q.casesOn λ{_ _ m} f R r e=>wpAny_Slice ((x7 h H b (P.to f R) e).mono λ{L _} q=>q.casesOn λ{_ _ j} c n r2 e=>
  (x7 h H b (P.to (f.trans c) n) e).mono λ{i s3} q=>q.casesOn λg s r3 e=>ao
   (have k{a o}(e:s3.heap.get? a=some o):(s3.heap.push {cls:=.type "slice",data:=.fields #[L,i,.none]}).get? a=some o:=fU e
    have t:dt [] _ s3 _ {s3 with heap:=s3.heap.push {cls:=.type "slice",data:=.fields #[L,i,.none]}}:=rd k;have w:=Lk (s.keeps k) (r2.mono g.sub j _) r3 (Heap.IsSliceOf.new ..) ((r.mono c.sub m _).mono g.sub m _) e
    w.1.elim λZ z=>z.elim λZ z=>WP.mono (tail_any z.1 z.2 w.2 rfl) (Lq.pre ((f.trans c).trans (g.trans t))))))
def HJ(h:∀x,a9 S d aa sc x (E sc x)):a9 S d aa sc (.Subscript x i pos) (LP sc E x i):=
 (vx i).casesOn (my rfl (h x) (h _)) (my rfl (h x) (h _)) (my rfl (h x) (h _)) (my rfl (h x) (h _)) (my rfl (h x) (h _))
  (λ{_ _ t _}=>t.casesOn (DJ h) λZ=>cq) λ{i} o=>(show LP sc E x i=_ from o.e _ _ _ _ _ _ _)▸my o.s (h x) (h i)
def L5(h:F1 o=some b):o=SQ b:=by cases o<;>first|(obtain rfl:=aj h;rfl)|exact nn h
def L6(h:∀x,a9 S d aa sc x (E sc x)):a9 S d aa sc (.BinOp x o y pos) (match F1 o with|some o=>aX o (E sc x) (E sc y)|none=>dk):=by
 cases q:F1 o with
 |none=>exact cq
 |some b=>
  intro A ab H c W af J s Q P e;exact rX (L5 q) (WP.L (h x H c P e) λ{_ _ _ _ m} f R r e=>ae (aU ((h y H c (P.to f R) e).mono λq=>q.casesOn λa g r2 e=>ae (a4 (wpAny_operate' ((Lc g (r.mono a.sub m _) r2 e).mono (Lq.pre (f.trans a))))))))
def Qr(h:∀x,a9 S d aa sc x (E sc x)):a9 S d aa sc (.UnaryOp o x pos) (match o with| .USub=>l8 (E sc x)| .Not=>zZ (E sc x)|_=>dk):=by
 intro A ab H a W af J s Q p e;cases o with
 |USub=>
  exact WP.L (h x H a p e) λf R r e=>ae (a4 (aU ((ek e r).casesOn λe=>P.neg_int (.pre f (.same R ri e)))))
 |Not=>
  exact WP.L (h x H a p e) λf R r e=>ae (a4 (aU ((Df e r).casesOn λe=>not_of (wpAny_truthy_bool (.pre f (.here R rb e))))))
 |_=>exact az e
end
section
variable{s1:Shared}{sc:Sc}{E:Sc->Expr->PE}{T:Sc->Expr->PT}
def DK(e:G2 m k J Q)(r:aF S W m v):∃i,.bool i=v/\k i J Q:=(Df e r).casesOn λe=>⟨_,rfl,e⟩
def sC(h:.bool i=v)(q:Q i s):WP S A (PySem.truthy v) Q s:=h▸wpAny_truthy_bool q
set_option backward.match.sparseCases true in
def DL(h:ug S A aa ab x ea)(H:ug S A aa ab (boolOp pos op (y::l)) b)(P:Pre S aa ab W af J s)(e:(match op with| .And=>jw ea b| .Or=>OE ea b) af J Q):
  WP S A (boolOp pos op (x::y::l)) (Lq S W s Q) s:=by
 cases op with
 |And=>exact WP.L (h P e) λf R r e=>(DK e r).elim λi z=>ae (a4 (ae (aU (sC z.1 (i.casesOn (λz=>ao (.mk f R r z.2)) (λz=>WP.pre f (H (P.to f R) z.2)) z)))))
 |Or=>exact WP.L (h P e) λf R r e=>(DK e r).elim λi z=>ae (a4 (ae (aU (sC z.1 (i.casesOn (λz=>WP.pre f (H (P.to f R) z.2)) (λz=>ao (.mk f R r z.2)) z)))))
theorem x8(h:∀x,a9 S d aa sc x (E sc x))(H:f3 A d)(a:ab.scope.names=sc):∀xs:List Expr,ug S A aa ab (boolOp pos op (evalEach xs ab)) (vU op (xs.map (E sc)))
 |[]=>λZ e=>az e
 |[x]=>λP e=>h x H a P e
 |x::y::l=>λP e=>DL (h x H a) (x8 h H a (y::l)) P (by cases op<;>exact e)
def snd_and(h:∀x,a9 S d aa sc x (E sc x)):a9 S d aa sc (.BoolOp op xs pos) (vU op (xs.map (E sc))):=λH a=>λP e=>x8 h H a xs P e
def HK(h:xd S A aa ab (isTrue x ab (eval x ab)) ta)(H:xd S A aa ab (allTrue op l ab) b)(P:Pre S aa ab W af J s)(e:(match op with| .And=>gZ ta b| .Or=>l9 ta b) af J Q):
  WP S A (allTrue op (x::l) ab) (Lb S W s Q) s:=by
 cases op with
 |And=>exact WP.B (h P e) λ{v _ _ _}=>v.casesOn (λf R e=>ao (.mk f R e)) λf R e=>WP.AL f (H (P.to f R) e)
 |Or=>exact WP.B (h P e) λ{v _ _ _}=>v.casesOn (λf R e=>WP.AL f (H (P.to f R) e)) λf R e=>ao (.mk f R e)
def HL(h:xd S A aa ab (isTrue x ab (eval x ab)) ta)(P:Pre S aa ab W af J s)(e:ta af J Q):WP S A (allTrue op [x] ab) (Lb S W s Q) s:=WP.B (h P e) λ{v _ _ _} f R e=>by cases op<;>cases v<;>exact ao (.mk f R e)
theorem Bg(h:∀x,gD S d aa sc x (T sc x))(H:f3 A d)(a:ab.scope.names=sc):∀xs:List Expr,xd S A aa ab (allTrue op xs ab) (vV op (xs.map (T sc)))
 |[]=>λZ e=>az e
 |[x]=>λP e=>HL (h x H a) P e
 |x::y::l=>λP e=>HK (h x H a) (Bg h H a (y::l)) P (by cases op<;>exact e)
def pZ:∀{a:List CmpOp} {Y:List Expr},Y.all lP=true->markedEach a Y ts=ts:=λ{a Y} h=>
 markedEach_of_false a Y ts (by
  induction Y generalizing a with
  |nil=>cases a with
   |nil=>rfl
   |cons o os=>cases os<;>rfl
  |cons y Y i=>
   have h:=aA h;have H:∀op,behindInMarks op y=false:=λop=>by cases y<;>first|rfl|exact ft h.1
   cases a with
   |nil=>rfl
   |cons o os=>
    cases os with
    |nil=>cases Y with
     |nil=>exact H o
     |cons b Y=>exact i h.2
    |cons o' os=>exact i h.2)
def mR.pre(f:dt [] W s W1 s1)(q:mR S W1 s1 Q v s'):mR S W s Q v s':=q.casesOn λg=>.mk (f.trans g)
theorem rp(H:∀x,a9 S d aa sc x (E sc x))(h:f3 A d)(g:ab.scope.names=sc):∀{os:List CmpOp}{Y:List Expr}{v:Value}{m:MV}{W af J s}{Q:Bool->MH->Prop},Pre S aa ab W af J s->aF S W m v->pj os (Y.map (E sc)) m af J Q->
  WP S A (compareChain pos v os (evalEach Y ab)) (mR S W s Q) s/\WP S A (testChain pos v os (evalEach Y ab)) (Lb S W s Q) s
 |[],_=>λZ Z e=>az e
 |[_],[]=>λZ Z e=>az e
 |_::_::_,[]=>λZ Z e=>az e
 |[o],[y]=>λP r e=>
  have w:=H y h g P e
  ⟨chain_last (w.mono λq=>q.casesOn λf R r2 e=>(mT h R (r.mono f.sub _ _) r2 e).mono (mR.pre f)),
   test_last (w.mono λq=>q.casesOn λf R r2 e=>(mT h R (r.mono f.sub _ _) r2 e).mono λq=>q.casesOn λa c e=>wpAny_truthy_bool (.mk (f.trans a) c e))⟩
 |[_],_::_::_=>λZ Z e=>az e
 |_::_::_,[_]=>λZ Z e=>az e
 |o::o'::os,y::y'::Y=>λP r e=>
  have w:=H y h g P e
  ⟨chain_link (w.mono λq=>q.casesOn λf R r2 e=>(mT h R (r.mono f.sub _ _) r2 e).mono λq=>q.casesOn λ{_ _ b _}=>b.casesOn (λa c e=>wpAny_truthy_bool (.mk (f.trans a) c e)) λa c e=>wpAny_truthy_bool ((rp H h g (P.to (f.trans a) c) (r2.mono a.sub _ _) e).1.mono (mR.pre (f.trans a)))),
   test_link (w.mono λq=>q.casesOn λf R r2 e=>(mT h R (r.mono f.sub _ _) r2 e).mono λq=>q.casesOn λ{_ _ b _}=>b.casesOn (λa c e=>wpAny_truthy_bool (.mk (f.trans a) c e)) λa c e=>wpAny_truthy_bool ((rp H h g (P.to (f.trans a) c) (r2.mono a.sub _ _) e).2.mono (Lb.pre (f.trans a))))⟩
def mR.lq(q:mR S W s (IT Q) v s'):Lq S W s Q v s':=q.casesOn λf R e=>.mk f R rb e
def L7{os:List CmpOp}(H:∀x,a9 S d aa sc x (E sc x)):a9 S d aa sc (.Compare x os ys pos) (gE (ys.all lP) (fv (E sc x) (pj os (ys.map (E sc))))):=
 iz λh=>λa b=>λP e=>by
  rw[arm_eval_Compare];refine rX (pZ h) ?_;exact WP.L (H x a b P e) λf R r e=>(rp H a b (P.to f R) r e).1.mono λq=>(q.pre f).lq
def L8{os:List CmpOp}(H:∀x,a9 S d aa sc x (E sc x)):gD S d aa sc (.Compare x os ys pos) (gT (ys.all lP) (aJ (E sc x) (pj os (ys.map (E sc))))):=
 Qq λh=>λa b=>λP e=>by
  rw[arm_isTrue_Compare];refine rX (pZ h) ?_;exact WP.L (H x a b P e) λf R r e=>(rp H a b (P.to f R) r e).2.mono (Lb.pre f)
def Qs(c:∀x,a9 S d aa sc x (E sc x))(g:∀x,gD S d aa sc x (T sc x)):a9 S d aa sc (.IfExp x a b pos) (jr (T sc x) (E sc a) (E sc b)):=λh H=>λP e=>by
 exact WP.B (g x h H P e) λ{v _ _ _}=>v.casesOn (λf R e=>WP.pre f (c b h H (P.to f R) e)) λf R e=>WP.pre f (c a h H (P.to f R) e)
def Qt(h:∀x,gD S d aa sc x (T sc x)):gD S d aa sc (.IfExp x a b pos) (tIf (T sc x) (T sc a) (T sc b)):=λH c=>λP e=>by
 exact WP.B (h x H c P e) λ{v _ _ _}=>v.casesOn (λf R e=>WP.AL f (h b H c (P.to f R) e)) λf R e=>WP.AL f (h a H c (P.to f R) e)
def L9(h:∀x,gD S d aa sc x (T sc x)):gD S d aa sc (.UnaryOp .Not x pos) (lF (T sc x)):=λH a=>λP e=>WP.B (h x H a P e) λf R e=>ao (.mk f R e)
def HM(h:∀x,gD S d aa sc x (T sc x)):gD S d aa sc (.BoolOp op xs pos) (vV op (xs.map (T sc))):=λH a=>λP e=>Bg h H a xs P e
def L_(H:∀{ab:Env}{w:Sem Value},isTrue x ab w=(do let v<-w;standAt x.pos;holding [v] (PySem.truthy v)))(h:a9 S d aa sc x e):gD S d aa sc x (tE e):=λa b=>λP e=>rX H (WP.L (h a b P e) λf R r e=>ae (a4 (aU ((DK e r).elim λZ z=>sC z.1 (.mk f R z.2)))))
def Ys(h:∀x,a9 S d aa sc x (E' sc x))(b:∀x,a9 S d aa sc x (E sc x))(H:∀x,gD S d aa sc x (T sc x)):∀x,gD S d aa sc x (stT E' E T sc x):=λx=>by
 cases x with
 |UnaryOp o a p=>
  cases o with
  |Not=>exact L9 H
  |_=>exact L_ rfl (h _)
 |BoolOp=>exact HM H
 |IfExp=>exact Qt H
 |Compare=>exact L8 b
 |_=>exact L_ rfl (h _)
end
section
variable{sc:Sc}{E:Sc->Expr->PE}
def xg(H:args.any (·.1)=false)(h:WP S A (spliced args) (λvs c=>Q ⟨vs,[]⟩ c) s):WP S A (evalArgs f true args []) Q s:=by
 cases args with
 |nil=>
  exact ae (h.mono λq=>ae (ao (aU (ae (ao (ae (ao (ao q))))))))
 |cons a r=>
  obtain⟨b,x⟩:=a;obtain rfl:=(Bool.or_eq_false_iff.1 H).1;exact evalArgs_plain h
def sD(S:aW)(A:Around)(f:Value)(s:Shared):Prop:=WP S A (keeperOf f) (λk a=>(k= .frame\/k= .machine)/\a=s) s
def callWith_K(H:args.any (·.1)=false)
  (h:WP S A (spliced args) (λvs a=>sD S A f a/\WP S A (PySem.call f (first++vs)) Q a) s):WP S A (callWith pos f first args []) Q s:=by
 refine ae (aU (xg H (h.mono λ{vs a} q=>ae (a4 ?_))));refine rX H ?_;refine rX any_nil ?_;rw[Bool.or_false];have tail{t:Sem Value}(b:WP S A t Q a):WP S A (t>>=λr=>holding [r] point>>=λZ=>Pure.pure r) Q a:=ae (b.mono λc=>ae (aU (wpAny_point (ao c))));refine ae (WP.mono q.1 λz=>?_);obtain⟨z,rfl⟩:=z;rcases z with rfl|rfl
 ·dsimp only;split
  ·exact tail q.2
  ·exact tail (by unfold callMarked;exact wpAny_keep q.2)
 ·exact tail q.2
def zr:sD S A (.builtin n) s:=wpAny_of_eq rfl ⟨.inr rfl,rfl⟩
def F9:sD S A (.type n) s:=wpAny_of_eq rfl ⟨.inr rfl,rfl⟩
def Qu(G:xf S)(R:Rel S W J s.heap)(h:tU S f\/tV S f):sD S A (.ref (c5 f)) s:=
 h.elim (λh=>h.elim λo h=>h.elim λa h=>by
   refine ae (wpAny_load (R.fz (R.base h.1)) ?_);exact rX h.2 (ao ⟨.inl rfl,rfl⟩)) λh=>h.elim λo h=>h.elim λa h=>by
   refine ae (wpAny_load (R.fz (R.base h.1)) ?_);exact rX h.2.1 (ae ((looks_specialIn (R.K G.1) h.2.2).here (ao ⟨.inr rfl,rfl⟩)))
def zt(X:Cx S C d)(H:f3 A d)(a:args.any (·.1)=false)(b:aC S W fm first)
  (h:WP S A (spliced args) (Lqn S W s (λl J=>call C f (fm++l) J Q) n) s):WP S A (callWith pos (.ref (c5 f)) first args []) (Lq S W s Q) s:=
 callWith_K a (h.mono λq=>q.2.casesOn λg R r e=>⟨Qu X.G R (X.kind e),WP.pre g (X.O H R ((b.mono g.sub fm _).append r) e)⟩)
def HN(X:Cx S C d)(b:∀x,a9 S d aa sc x (E sc x))(c:eF sc n=true)(g:fN kf n=some (.fn f))(h:xs.all notStar=true):a9 S d aa sc (.Call (.Name n p) xs [] pos) (aq C f (xs.map (E sc))):=
 λH a=>λP e=>ae (F7 X.G P (a.symm▸c) g λr=>Eq.casesOn r (zt (fm:=[]) X H (jJ h) rfl (hM b H a h P e)))
def HO{es:List PE}(e:ES C es af Q m J):∃f,m=.fn f/\eL es af J (Cg C f Q):=by
 cases m with
 |fn f=>exact⟨f,rfl,e⟩
 |_=>exact az e
def DM(X:Cx S C d)(b:a9 S d aa sc (.Name n p) ef)(c:∀x,a9 S d aa sc x (E sc x))(h:xs.all notStar=true):a9 S d aa sc (.Call (.Name n p) xs [] pos) (oQ C ef (xs.map (E sc))):=
 λH a=>λP e=>by
  exact WP.L (b H a P e) λ{v _ W1 _ m} g R r e=>(HO e).elim λf z=>have r:aF S W1 (.fn f) v:=z.1▸r;Eq.casesOn r (WP.pre g (zt (fm:=[]) X H (jJ h) rfl (hM c H a h (P.to g R) z.2)))
def Qv(h:look nV Jp n=some b):(n,yJ b)∈qc:=rL (.inl (rL (.inl (fg (mem_map.2 ⟨_,kQ h,rfl⟩)))))
def Qw(h:look mf tys n=some b):(n,.type (tyName b))∈qc:=rL (.inl (rL (.inr (mem_map.2 ⟨_,kQ h,rfl⟩))))
def Qx(h:look k9 vf n=some b):(n,yL b)∈qc:=rL (.inr (mem_map.2 ⟨_,kQ h,rfl⟩))
def L'(b:Bi):sD S A (yJ b) s:=by cases b<;>first|exact zr|exact F9
def Qy(X:Cx S C d)(c:∀x,a9 S d aa sc x (E sc x))(f:eF sc n=true)(i:look nV Jp n=some b)(h:xs.all notStar=true):a9 S d aa sc (.Call (.Name n p) xs [] pos) (df b (xs.map (E sc))):=
 λH a=>λP e=>ae (F8 X.G P (a.symm▸f) (Qv i) (callWith_K (jJ h) ((hM c H a h P e).mono λq=>q.2.casesOn λg R r e=>⟨L' b,WP.pre g (Ds H R r e)⟩)))
def Qz{t:Ty}(e:IU t Q m J):∃b,zY m t=some b/\Q (.bool b) J:=by
 unfold IU at e;cases q:zY m t with
 |none=>rw[q]at e;exact e.elim
 |some b=>rw[q]at e;exact⟨b,rfl,e⟩
def Ma(h:seq n nW=true):n=nW:=seq_eq h
def Mb{t:Ty}(X:Cx S C d)(a:∀x,a9 S d aa sc x (E sc x))(c:eF sc n=true)(f:seq n nW=true)(i:look mf tys n'=some t)(h:(eF sc n'&&notStar y)=true):
  a9 S d aa sc (.Call (.Name n p) [y,.Name n' p'] [] pos) (nq (E sc y) t):=
 λj H=>λP e=>by
  have h:=aA h;refine ae (F8 (v:=.builtin "isinstance") X.G P (H.symm▸c) (Ma f▸eE) (callWith_K (jJ (Bool.and_eq_true_iff.2 ⟨h.2,rfl⟩)) ?_));exact rX (mY h.2) (spliced_cons ((a y j H P e).mono λq=>q.casesOn λg R r e=>spliced_cons (F8 X.G (P.to g R) (H.symm▸h.1) (Qw i) (spliced_nil ⟨zr,(Qz e).elim λb z=>WP.pre g (Ye X.G.2.2 R r z.1 z.2)⟩))))
end
section
variable{s:Shared}
def p3(b:(ap.endLine==pos.line)=true)(c:xs.all notStar=true)(H:decide (xs.length<30)=true)
  (d:∀{pl Q'},Q' (f,first) s->WP S A (getMethod v n pl) Q' s)(h:WP S A (callWith pos f first (backTo pos (starEach xs ab)) []) Q s):
  WP S A (methodCall o n ap pos ab v (xs.length+([]:List Keyword).length) (backTo pos (starEach xs ab)) (backToKw pos (keywordEach [] ab))) Q s:=by
 have a:methodCallForm (xs.length+([]:List Keyword).length) (backTo pos (starEach xs ab)) (backToKw pos (keywordEach [] ab))=true:=by
  unfold methodCallForm;exact rX (HF c) H
 unfold methodCall;refine rX a ?_;refine ae (aU ?_);exact d (ae (wpAny_of_eq (by unfold methodCallPos;simp[b]) h))
def zu(X:Cx S C d)(R:Rel S W J s.heap)(r:aF S W (.obj c l) v)(h:lE c k=some f)(b:iG[k]?=some n)(q:Q (.ref (c5 f),[v]) s):WP S A (getMethod v n pl) Q s:=
 have M:=X.H.2.2 h b
 Ob.casesOn r (λ{a d od vs} e g i j m q=>method_fn (od:=some od) (R.K X.G.1) ⟨R.fz e,rfl,rfl,R.fz g⟩ (X.H.1 (zq h)).2.1 (X.H.1 (zq h)).2.2 M.1 M.2.1 (show(lookIn n od).map (·.isSome)=some false by rw[i.2,M.2.2];rfl) q) q
noncomputable def Mc(b:Bm):String:=match b with
 | .append=>"list.append"
 | .extend=>"list.extend"
 | .pop=>"list.pop"
 | .nj=>"dict.get"
 | .l7=>"dict.get"
def uI(b:Bm):Str:=match b with
 | .append=>"append"
 | .extend=>"extend"
 | .pop=>"pop"
 | .nj=>k_get
 | .l7=>k_get
def DN{id:String}{K:Unit->MH->Prop}(R:Rel S W J s.heap)(a:Slot "list" nm id)(h:typeOf (.builtin id)=Pure.pure (.type "method_descriptor"))(r:aF S W (.lst i) v)(e:dh i J λZ J=>K () J):
  K () J/\(Q (.builtin id,[v]) s->WP S A (getMethod v nm pl) Q s):=
 (R.r_ r e).casesOn λq e=>⟨e,q.casesOn λZ Z H Z Z=>getMethod_list_of a h (IsL.list H) ⟨_,H,rfl⟩⟩
def Md{K:Unit->MH->Prop}(e:kY .nj o J K):∃i,o=.iD i/\kv i J λZ J=>K () J:=by
 unfold kY at e;cases o with
 |iD i=>exact⟨i,rfl,e⟩
 |_=>exact az e
def Me{K:Unit->MH->Prop}(e:kY .l7 o J K):∃k m,o=.dZ k m/\K () J:=by
 unfold kY at e;cases o with
 |dZ k m=>exact⟨_,_,rfl,e⟩
 |_=>exact az e
def zv{K:Unit->MH->Prop}(h:bm=.append\/bm=.extend\/bm=.pop)(e:kY bm o J K):wW o (λa=>dj (dh a) λZ=>ret ()) J K:=by
 rcases h with rfl|rfl|rfl<;>(with_unfolding_all exact e)
def Bh{K:Unit->MH->Prop}(R:Rel S W J s.heap)(r:aF S W o v)(e:kY bm o J K):K () J/\(Q (.builtin (Mc bm),[v]) s->WP S A (getMethod v (uI bm) pl) Q s):=by
 cases bm with
 |append=>exact qq (zv (.inl rfl) e) r λr e=>DN R F.slot_list_append (by kernel_rfl) r e
 |extend=>exact qq (zv (.inr (.inl rfl)) e) r λr e=>DN R F.slot_list_extend (by kernel_rfl) r e
 |pop=>exact qq (zv (.inr (.inr rfl)) e) r λr e=>DN R F.slot_list_pop (by kernel_rfl) r e
 |nj=>exact(Md e).elim λi z=>(R.Ya (z.1▸r:aF S W (.iD i) v) z.2).casesOn λq e=>⟨e,q.casesOn λZ Z h Z Z=>getMethod_builtin h.mapOf.typeIs F.plainAttrs_dict F.slot_dict_get (by kernel_rfl) h.mapOf.noDict⟩
 |l7=>exact(Me e).elim λk z=>z.elim λm z=>⟨z.2,(R.dZ (z.1▸r:aF S W (.dZ k m) v)).casesOn λh Z Z Z=>getMethod_builtin h.mapOf.typeIs F.plainAttrs_dict F.slot_dict_get (by kernel_rfl) h.mapOf.noDict⟩
def Yt(e:eG .append o ms J Q):wW o (λa=>a1 ms λv=>dj (dh a) λl=>dj (iu a (l++[v])) λZ=>ret .none) J Q:=by with_unfolding_all exact e
def S4(a:Nat)(v:MV):M (List MV):=match v with| .lst b=>ke (a≠b) (dh b)| .aQ l=>ret l|_=>fc
def Yu(R:Rel S W J s.heap)(r:aF S W m v)(e:S4 a m J Q):∃l,Hf S W s.heap l v/\Q l J:=by
 refine I λk=>?_;cases m with
 |lst b=>exact k (mj R r (hA e).2)
 |aQ l=>exact k (mj R r e)
 |_=>exact az e
def Yv(e:eG .extend o ms J Q):wW o (λa=>a1 ms λv=>dj (S4 a v) λm=>dj (dh a) λl=>dj (iu a (l++m)) λZ=>ret .none) J Q:=by with_unfolding_all exact e
def Yw(e:eG .pop o ms J Q):wW o (λa=>a0 ms (dj (dh a) λl=>dj (ask l.getLast?) λv=>dj (iu a l.dropLast) λZ=>ret v)) J Q:=by with_unfolding_all exact e
def Yx(e:eG .nj o ms J Q):a1 ms (λk=>t9 k λs=>(match o with| .iD a=>dj (kv a) λl=>ret ((fN l s).getD .none)|_=>fc)) J Q:=by with_unfolding_all exact e
def Yy(e:eG .l7 o ms J Q):a2 ms (λk d=>t9 k λs=>(match o with| .dZ ks vs=>ret ((look ks vs s).getD d)|_=>fc)) J Q:=by with_unfolding_all exact e
def QA{x:Str}{t:Tok}(R:Rel S W J s.heap)(r:aF S W o v)(e:(match o with| .iD a=>dj (kv a) λl=>ret ((fN l x).getD .none)|_=>fc) J Q):WP S A (PySem.call (.builtin "dict.get") [v,.str x t]) (Lq S W s Q) s:=by
 cases o with
 |iD i=>exact(R.Ya r e).casesOn λq e=>PZ R q e
 |_=>exact az e
def QB{x:Str}{t:Tok}(R:Rel S W J s.heap)(r:aF S W o v)(a:aF S W m u)(e:(match o with| .dZ k vs=>ret ((look k vs x).getD m)|_=>fc) J Q):WP S A (PySem.call (.builtin "dict.get") [v,.str x t,u]) (Lq S W s Q) s:=by
 cases o with
 |dZ k b=>exact P0 R (R.dZ r) a e
 |_=>exact az e
def aaL(R:Rel S W J s.heap)(r:aF S W o v)(gC:aC S W ms vs)(e:eG bm o ms J Q):WP S A (PySem.call (.builtin (Mc bm)) (v::vs)) (Lq S W s Q) s:=by
 cases bm with
 |append=>exact qq (Yt e) r λr e=>(ll e gC).casesOn λa e=>Hg R r a e
 |extend=>exact qq (Yv e) r λ{i} r e=>(ll e gC).casesOn λ{m _} a e=>(Yu R a e).elim λZ z=>Hh R r z.1 z.2
 |pop=>exact qq (Yw e) r λr e=>SP (G:=λvs=>WP S A (PySem.call (.builtin (Mc .pop)) (v::vs)) (Lq S W s Q) s) e gC λe=>XZ R r e
 |nj=>exact(ll (Yx e) gC).casesOn λa e=>(sg e a).casesOn λe=>QA R r e
 |l7=>exact(K5 (Yy e) gC).casesOn λa r2 e=>(sg e a).casesOn λe=>QB R r r2 e
end
section
variable{sc:Sc}{E:Sc->Expr->PE}
abbrev Yz(a p:Pos)(o:Expr)(xs:List Expr):Prop:=(a.endLine==p.line)=true/\mx o=true/\xs.all notStar=true/\decide (xs.length<30)=true
def mc4(h:(ap.endLine==pos.line&&mx o&&xs.all notStar&&decide (xs.length<30))=true):Yz ap pos o xs:=
 have H:=aA (aA h).1
 ⟨(aA H.1).1,(aA H.1).2,H.2,(aA h).2⟩
def Mf{es:List PE}(e:Ci C k es af Q m J):∃c l f,m=.obj c l/\lE c k=some f/\eL es af J (ET C f m Q):=by
 cases m with
 |obj c l=>
  unfold Ci at e;dsimp only at e;cases q:lE c k with
  |none=>rw[q]at e;exact e.elim
  |some f=>rw[q]at e;exact⟨c,l,f,rfl,q,e⟩
 |_=>exact az e
def HP(X:Cx S C d)(a:∀x,a9 S d aa sc x (E sc x))(h:Yz ap pos o xs)(i:iG[k]?=some n):a9 S d aa sc (.Call (.Attribute o n ap) xs [] pos) (dS C k (E sc o) (xs.map (E sc))):=
 λH b=>λP e=>by
  rw[arm_eval_Call];refine rX (qx h.2.1) ?_
  exact WP.L (a o H b P e) λ{v _ W1 _ m} g R r e=>ae (a4 ((Mf e).elim λc z=>z.elim λl z=>z.elim λf z=>
   p3 h.1 h.2.2.1 h.2.2.2 (λq=>zu X R (z.1▸r) z.2.1 i q) (WP.pre g (zt X H (jJ h.2.2.1) (.one r) (hM a H b h.2.2.1 (P.to g R) z.2.2)))))
def QC(H:∀x,a9 S d aa sc x (E sc x))(h:Yz ap pos o xs):a9 S d aa sc (.Call (.Attribute o (uI bm) ap) xs [] pos) (d4 bm (E sc o) (xs.map (E sc))):=
 λ{A _} a b=>λP e=>by
  rw[arm_eval_Call];refine rX (qx h.2.1) ?_
  exact WP.L (H o a b P e) λ{v _ W1 _ m} g R r e=>ae (a4 (p3 h.1 h.2.2.1 h.2.2.2 (λ{pl f} q=>(Bh R r e).2 q)
   (callWith_K (jJ h.2.2.1) ((hM H a b h.2.2.1 (P.to g R) (Bh (A:=A) (pl:=Pure.pure true) (Q:=λZ Z=>True) R r e).1).mono λq=>q.2.casesOn λG c r2 e=>⟨zr,(aaL c (r.mono G.sub m _) r2 e).mono (Lq.pre (g.trans G))⟩))))
def HQ(h:getOf k=some b):uI b=k_get:=by
 unfold getOf at h;split at h<;>cases h<;>rfl
def Mg(h:F2 n k=some b):n=uI b:=by
 unfold F2 at h;cases q:look vW Yp n with
 |some c=>
  rw[q]at h;obtain rfl:=aj h;have m:=kQ q;simp only[vW,Yp,zip_cons_cons,zip_nil_left,mem_cons,d6,or_false,Prod.mk.injEq]at m;rcases m with⟨rfl,rfl⟩|⟨rfl,rfl⟩|⟨rfl,rfl⟩<;>rfl
 |none=>
  rw[q]at h;replace h:(match seq n k_get with|true=>getOf k|false=>none)=some b:=h;cases z:seq n k_get with
  |false=>rw[z]at h;exact nn h
  |true=>rw[z]at h;exact(seq_eq z).trans (HQ h).symm
def DO(X:Cx S C d)(H:∀x,a9 S d aa sc x (E sc x)):a9 S d aa sc (.Call (.Attribute o n ap) xs [] pos) (F3 C sc E xs pos o n ap):=
 iz λh=>by
  cases q:F2 n xs.length with
  |some b=>
   obtain rfl:=Mg q;exact @λA ab=>QC H (mc4 h)
  |none=>
   cases z:sz n iG 0 with
   |none=>exact cq
   |some k=>exact HP X H (mc4 h) (zo z)
def HR(X:Cx S C d)(H:∀x,a9 S d aa sc x (E sc x))(a:eF sc n=true)(b:seq n nW=true):a9 S d aa sc (.Call (.Name n p) [y,.Name n' p'] [] pos) (match look mf tys n' with|some t=>gE (eF sc n'&&notStar y) (nq (E sc y) t)|none=>dk):=
 match q:look mf tys n' with
 |none=>cq
 |some _=>iz λh=>Mb X H a b q h
def HS(X:Cx S C d)(h:∀x,a9 S d aa sc x (E sc x))(H:eF sc n=true)(a:seq n nW=true):a9 S d aa sc (.Call (.Name n p) xs [] pos) (LO sc E xs):=
 match xs with
 |[]=>cq
 |[_]=>cq
 |_::_::_::_=>cq
 |[y,z]=>(vx z).casesOn (HR X h H a) cq cq cq cq cq λ{z} o=>(show LO sc E [y,z]=dk from o.e _ _ _ _ _ _ _)▸cq
def DQ(X:Cx S C d)(H:∀x,a9 S d aa sc x (E sc x))(a:eF sc n=true):a9 S d aa sc (.Call (.Name n p) xs [] pos) (zk C sc E n xs):=by
 unfold zk;cases c:seq n nW with
 |true=>exact HS X H a c
 |false=>
  dsimp only;cases q:look nV Jp n with
  |some b=>exact iz λh=>Qy X H a q h
  |none=>
   dsimp only;cases z:fN kf n with
   |none=>exact cq
   |some v=>
    cases v with
    |fn f=>exact iz λh=>HN X H a z h
    |_=>exact cq
def DR(X:Cx S C d)(H:∀x,a9 S d aa sc x (E sc x)):a9 S d aa sc (.Call (.Name n p) xs [] pos) (zl C aa sc E xs n):=by
 unfold zl;cases q:eF sc n with
 |true=>exact DQ X H q
 |false=>exact iz λh=>DM X Be H h
def DT(X:Cx S C d)(h:∀x,a9 S d aa sc x (E sc x)):a9 S d aa sc (.Call f xs ks pos) (DF C aa sc E f xs ks pos):=
 match ks with
 |_::_=>cq
 |[]=>(vx f).casesOn (DR X h) cq (DO X h) cq cq cq λ{f} o=>(show DF C aa sc E f xs [] pos=dk from(o.e _ _ _ _ _ _ _).trans (o.e _ _ _ _ _ _ _))▸cq
end
abbrev aaM(S:aW)(A:Around)(v:List Str)(ab:Env)(t i:Expr)(k:Ik)(src:List PE):Prop:=∀{W af J s Q},Pre S v ab W af J s->eL src af J (λl J=>uX k l J Q)->WP S A (eval i ab) (A_ S A t W s Q) s
abbrev zw(S:aW)(A:Around)(v:List Str)(ab:Env)(t i:Expr)(k:Ik)(src:List PE):Prop:=(∀x,foldedSetIterable i ab x=Pure.pure x)/\aaM S A v ab t i k src
section
variable{sc:Sc}{E:Sc->Expr->PE}
def DU(a:a9 S d aa sc it (E sc it))(H:f3 A d)(b:ab.scope.names=sc)(h:lP it=true):zw S A aa ab t it .plain [E sc it]:=
 ⟨λx=>by cases it<;>first|rfl|exact ft h,λP e=>(a H b P e).mono λq=>q.casesOn λf R r e=>.mk f R (A0 H.handled R r e)⟩
def Mh(h:k∈vf)(l:List Value):xX k l=PySem.call (yL k) l:=by
 simp only[vf,mem_cons,d6,or_false]at h;rcases h with rfl|rfl|rfl<;>rfl
def Mi(h:k∈vf):sD S A (yL k) s:=by
 simp only[vf,mem_cons,d6,or_false]at h;rcases h with rfl|rfl|rfl<;>exact F9
def HT(X:Cx S C d)(g:∀x,a9 S d aa sc x (E sc x))(H:f3 A d)(a:ab.scope.names=sc)(i:FV k t)(b:look k9 vf n=some k)(j:eF sc n=true)(h:xs.all notStar=true):
  zw S A aa ab t (.Call (.Name n p) xs [] pos) k (xs.map (E sc)):=
 have c:=(of_mem_zip (kQ b)).2
 ⟨λZ=>rfl,λP e=>ae (F8 X.G P (a.symm▸j) (Qx b) (callWith_K (jJ h) ((hM g H a h P e).mono λq=>q.2.casesOn λf R r e=>⟨Mi c,(LA H.handled i R r e).mono (λw=>.mk f R w)|>λw=>(Mh c _)▸w⟩)))⟩
inductive Mj(sc:Sc)(E:Sc->Expr->PE):Expr->Ik×List PE×Bool->Prop
 |p{z:Expr}:Mj sc E z (.plain,[E sc z],lP z)
 |c{n p xs ks q k}:look k9 vf n=some k->Mj sc E (.Call (.Name n p) xs ks q) (k,xs.map (E sc),isNil ks&&eF sc n&&xs.all notStar)
def itc(i:Expr):Mj sc E i (ji sc E i):=
 (vx i).casesOn .p .p .p .p (λ{f xs a p}=>(vx f).casesOn (λ{n P}=>by
   show Mj sc E _ (match look k9 vf n with|some k=>(k,xs.map (E sc),isNil a&&eF sc n&&xs.all notStar)|none=>pk sc E _);cases q:look k9 vf n with
   |none=>exact .p
   |some k=>exact .c q) .p .p .p .p .p λ{f} o=>(show ji sc E (.Call f xs a p)=_ from o.e _ _ _ _ _ _ _)▸.p) .p λo=>(show ji sc E _=_ from o.e _ _ _ _ _ _ _)▸.p
def rq(X:Cx S C d)(H:∀x,a9 S d aa sc x (E sc x))(a:f3 A d)(c:ab.scope.names=sc)(e:ji sc E i=(k,src,b))(h:b=true)(f:FV k t):zw S A aa ab t i k src:=
 Mj.casesOn (itc i)
  (λ{i} z=>by
   cases z;exact DU (H i) a c h)
  (λ{n p xs g P l} j z=>by
   cases z;cases g with
   |nil=>exact HT X H a c f j (aA (aA h).1).2 (aA h).2
   |cons _ _=>exact ft (aA (aA h).1).1) e
def mZ(h:iy aa sc x=some i):nB aa sc i x:=
 (vx x).casesOn (λ{n p} h=>by
  replace h:(match eS sc n with|true=>sz n aa 0|false=>none)=some i:=h;cases q:eS sc n with
  |false=>rw[q]at h;exact nn h
  |true=>rw[q]at h;exact .mk (zo h) q) (λh=>nn h) (λh=>nn h) (λh=>nn h) (λh=>nn h) (λh=>nn h) (λo h=>nn (ag (o.e _ _ _ _ _ _ _) h)) h
def Bj:∀{t:List Expr}{i:List Nat},dM (iy aa sc) t=some i->jy aa sc i t:=by
 intro m;induction m with
 |nil=>exact λe=>aj e▸.nil
 |cons _ t c=>exact λe=>rg (P:=λi=>jy aa sc i (_::t)) e λa b=>.cons (mZ a) (c b)
def pq(h:Yq aa sc t=some tg):mn aa sc tg t:=by
 unfold Yq at h;cases q:iy aa sc t with
 |none=>rw[q]at h;exact nn h
 |some i=>rw[q]at h;exact aj h▸.one (mZ q)
def j9(h:pY aa sc t=some tg):mn aa sc tg t:=
 (vx t).casesOn (λh=>pq h) (λ{l a p} h=>by
  replace h:(match dM (iy aa sc) l with|some i=>some (Tg.many i)|none=>none)=some tg:=h;cases q:dM (iy aa sc) l with
  |none=>rw[q]at h;exact nn h
  |some i=>rw[q]at h;exact aj h▸.many (Bj q)) (λh=>pq h) (λh=>pq h) (λh=>pq h) (λh=>pq h) (λo h=>pq (ag (o.e _ _ _ _ _ _ _) h)) h
def oy(h:mn aa sc tg t)(f:mX k tg=true):FV k t:=by
 cases k with
 |plain=>trivial
 |range=>trivial
 |enum=>cases h with|one _=>exact ft f|many _=>exact⟨_,_,_,rfl⟩
 |zip=>cases h with|one _=>exact ft f|many _=>exact⟨_,_,_,rfl⟩
def qz:∀{l:List Str},c7 k l=false->k∉l:=by
 intro a;induction a with
 |nil=>exact λZ=>d6
 |cons s l i=>
  intro h;replace h:(match seq s k with|true=>true|false=>c7 k l)=false:=h;cases q:seq s k with
  |true=>rw[q]at h;exact tf h
  |false=>
   rw[q]at h;exact λm=>(hH m).elim (λe=>by rw[e,pa]at q;exact tf q) (i h)
def p4(h:(!b)=true):b=false:=by cases b<;>first|rfl|exact ft h
def ps:∀{l:List Str},yK l=true->l.Nodup:=by
 intro m;induction m with
 |nil=>exact λZ=>nodup_nil
 |cons _ _ i=>exact λh=>have h:=aA h;nodup_cons.2 ⟨qz (p4 h.1),i h.2⟩
def QD:∀{l:List Nat},HC l=true->l.Nodup:=by
 intro m;induction m with
 |nil=>exact λZ=>nodup_nil
 |cons i l a=>exact λh=>have h:=aA h;nodup_cons.2 ⟨by simpa using h.1,a h.2⟩
def YA(h:ckB aa sc is p=true):ckR aa sc is p.1 p.2:=by
 obtain⟨x,k⟩:=p;cases k with
 |«local»=>exact(pF h).imp eq_of_beq λh=>(any_eq_true.1 h).elim λi z=>⟨i,z.1,eq_of_beq z.2⟩
 |free=>exact(pF h).imp eq_of_beq eq_of_beq
 |cell=>exact ft h
 |_=>trivial
def Mk(h:rm aa sc is scope=true):jT aa sc is scope:=
 have H:=aA (aA h).1
 ⟨eq_of_beq (aA H.1).1,qz (p4 (aA H.1).2),ps H.2,λm=>YA (all_eq_true.1 (aA h).2 _ m)⟩
end
section
variable{sc:Sc}{E:Sc->Expr->PE}{T:Sc->Expr->PT}
noncomputable abbrev rr(i:List Expr)(b:Bool)(ab:Env):Sem Bool:=forIn i b λc r=>if r=true then do let ok<-isTrue c ab (eval c ab);Pure.pure (ForInStep.yield ok)else Pure.pure (ForInStep.yield r)
def HU(q:Q false s):∀l:List Expr,WP S A (rr l false ab) Q s:=by
 intro m;induction m with
 |nil=>exact ao q
 |cons c l i=>
  unfold rr;rw[forIn_cons];exact ae (ao (i))
def HV(h:WP S A (isTrue c ab (eval c ab)) (λb s=>WP S A (rr l b ab) Q s) s):WP S A (rr (c::l) true ab) Q s:=by
 unfold rr;rw[forIn_cons];exact ae (ae (h.mono λq=>ao q))
def DV(h:∀x,gD S d aa sc x (T sc x))(H:f3 A d)(a:ab.scope.names=sc):∀l:List Expr,xd S A aa ab (tests l ab) (Cj (l.map (T sc))):=by
 intro m;induction m with
 |nil=>exact λP e=>ao (.here P.R e)
 |cons c l i=>exact λP e=>HV ((h c H a P e).mono λ{b _}=>b.casesOn (λq=>q.casesOn λf R e=>HU (.mk f R e) l) λq=>q.casesOn λf R e=>WP.AL f (i (P.to f R) e))
def F_(b:∀sc x,a9 S d aa sc x (E sc x))(c:∀sc x,gD S d aa sc x (T sc x))(H:f3 A d)(a:ab.scope.names=sc)(e:mn aa scope.names tg t)(n:HC (fb tg)=true)(o:rm aa sc (fb tg) scope=true)(f:∀x,foldedSetIterable mw ab x=Pure.pure x):
  zh S A aa ab scope tg (Cj (fs.map (T (eA sc scope.names)))) (E (eA sc scope.names) x) t x mw fs:=
 ⟨H.handled,a▸Mk o,e,QD n,f,λh=>DV (c _) H (h.trans (a▸rfl)) fs,λh=>b _ _ H (h.trans (a▸rfl))⟩
def v5(X:Cx S C d)(a:∀sc x,a9 S d aa sc x (E sc x))(j:∀sc x,gD S d aa sc x (T sc x))(c:pY aa scope.names t=some tg)(i:ji sc E mw=(k,src,b)):
  a9 S d aa sc (.ListComp x [⟨t,mw,fs,n⟩] scope pos) (gE (b&&n==0&&HC (fb tg)&&mX k tg&&rm aa sc (fb tg) scope) (fO (E (eA sc scope.names) x) tg k src (fs.map (T (eA sc scope.names))))):=
 iz λh=>
 have H:=aA (aA h).1
 λf g=>λP e=>by
  obtain rfl:=eq_of_beq (aA (aA H.1).1).2;exact Qn (F_ a j f g (j9 c) (aA H.1).2 (aA h).2 (rq X (a sc) f g i (aA (aA H.1).1).1 (oy (j9 c) H.2)).1) P ((rq X (a sc) f g i (aA (aA H.1).1).1 (oy (j9 c) H.2)).2 P e)
def F'(h:e=e')(k:a9 S d aa sc x e'):a9 S d aa sc x e:=h▸k
def HW(X:Cx S C d)(h:∀sc x,a9 S d aa sc x (E sc x))(H:∀sc x,gD S d aa sc x (T sc x)):a9 S d aa sc (.ListComp x gs scope pos) (qw aa sc E T x gs scope):=
 match gs with
 |[]=>cq
 |_::_::_=>cq
 |[⟨t,it,fs,n⟩]=>match q:pY aa scope.names t with
  |none=>F' (by unfold qw;dsimp only;exact rX q rfl) cq
  |some a=>F' (by unfold qw;dsimp only;exact rX q rfl) (v5 (b:=(ji sc E it).2.2) (src:=(ji sc E it).2.1) (k:=(ji sc E it).1) X h H q rfl)
def HX:a9 S d aa sc (.Dict ks vs pos) (match ks with|[]=>(match vs with|[]=>Ce|_=>dk)|_=>dk):=
 match ks with
 |_::_=>cq
 |[]=>match vs with
  |_::_=>cq
  |[]=>λZ Z=>λP e=>ae (a4 (Dq P.R (by with_unfolding_all exact e)))
def DX(X:Cx S C d)(h:∀sc x,a9 S d aa sc x (E sc x))(H:∀sc x,gD S d aa sc x (T sc x))(sc:Sc)(x:Expr):a9 S d aa sc x (LQ C aa E T sc x):=by
 have e:=h sc;cases x with
 |Constant c k p=>exact(snd_const:a9 S d aa sc (.Constant c k p) (zi c))
 |Name n p=>
  show a9 S d aa sc (.Name n p) (zj aa sc n);exact HE X.G
 |Tuple=>exact(L0 e:a9 S d aa sc (.Tuple _ _ _) _)
 |List=>exact(L1 e:a9 S d aa sc (.List _ _) _)
 |Dict=>exact(HX:a9 S d aa sc (.Dict _ _ _) _)
 |Attribute=>exact(HH X (e _):a9 S d aa sc (.Attribute _ _ _) _)
 |Subscript=>exact(HJ e:a9 S d aa sc (.Subscript _ _ _) _)
 |BinOp=>exact(L6 e:a9 S d aa sc (.BinOp _ _ _ _) _)
 |UnaryOp=>exact(Qr e:a9 S d aa sc (.UnaryOp _ _ _) _)
 |BoolOp=>exact(snd_and e:a9 S d aa sc (.BoolOp _ _ _) _)
 |Compare=>exact(L7 e:a9 S d aa sc (.Compare _ _ _ _) _)
 |IfExp=>exact(Qs e (H sc):a9 S d aa sc (.IfExp _ _ _ _) _)
 |Call=>exact(DT X e:a9 S d aa sc (.Call _ _ _ _) _)
 |ListComp=>exact(HW X h H:a9 S d aa sc (.ListComp _ _ _ _) _)
 |_=>exact(cq:a9 S d aa sc _ dk)
structure sG(S:aW)(d:Nat)(aa:List Str)(D:DP):Prop where
 e:∀sc x,a9 S d aa sc x (D.e sc x)
 t:∀sc x,gD S d aa sc x (D.t sc x)
def zx(X:Cx S C d):∀n,sG S d aa (den C aa n):=by
 intro m;induction m with
 |zero=>exact⟨λZ Z=>cq,λZ Z=>λZ Z=>λZ e=>az e⟩
 |succ n i=>exact have h:=i
  ⟨(DX X h.e h.t),λsc=>Ys ((DX X h.e h.t) sc) (h.e sc) (h.t sc)⟩
end
inductive zy(P:MV->Value->Prop):Fl->Flow->Prop
 |next:zy P .next .next
 |cont:zy P .cont .cont
 |ret{m v}:P m v->zy P (.ret m) (.ret v)
inductive Lx(S:aW)(aa:List Str)(ab:Env)(X:List Addr)(W:Wd)(s:Shared)(K:QK)(g:Flow)(s':Shared):Prop
 |mk{W' f jx bH}:dt X W s W' s'->Pre S aa ab W' jx bH s'->zy (aF S W') f g->K f jx bH->Lx S aa ab X W s K g s'
inductive zz(S:aW)(aa:List Str)(ab:Env)(W:Wd)(s:Shared)(K:QK):Result->Shared->Prop
 |mk{g s'}:Lx S aa ab (cP ab) W s K g s'->zz S aa ab W s K (.ok g) s'
abbrev Bl(S:aW)(A:Around)(v:List Str)(ab:Env)(x:Sem Flow)(p:PS):Prop:=∀{W af J s K},Pre S v ab W af J s->p af J K->WP S A x (Lx S v ab (cP ab) W s K) s
def Ga(R:Result->Shared->Prop)(j:Shared->Prop)(f:Flow)(s:Shared):Prop:=match f with
 | .next=>j s
 | .cont=>j s
 | .brk=>R (.ok .next) s
 | .ret v=>R (.ok (.ret v)) s
def Ml(S:aW)(A:Around)(t:Expr)(i:Value)(b:List Stmt)(ab:Env)(R:Result->Shared->Prop)(j:Shared->Prop)(r:Option Value)(s:Shared):Prop:=match r with
 |none=>R (.ok .next) s
 |some v=>WP S A (letOwnedTupleGo t i v) (λZ s=>WP S A (assign t ab v) (λZ s=>WP S A (execs b ab) (Ga R j) s) s) s
structure v7(S:aW)(aa:List Str)(ab:Env)(Y:List Addr)(T:Nat->Heap->Prop)(bG:Wd)(b_:Shared)(i:Nat)(W:Wd)(af:Loc)(J:MH)(s:Shared):Prop where
 here:T i s.heap
 sx:Apart Y W s.heap
 pre:Pre S aa ab W af J s
 f:dt (cP ab++Y) bG b_ W s
structure Bn(S:aW)(A:Around)(aa:List Str)(ab:Env)(Y:List Addr)(T:Nat->Heap->Prop)(bG:Wd)(b_:Shared)(wk:Wk)(tg:Tg)(body:PS)(N:Nat)(t:Expr)(b:List Stmt)(it:Addr):Prop where
 hh:A.handled=none
 xe:gr S A t it Y wk N bG T
 ht:mn aa ab.scope.names tg t
 Dy:∀{a},a∈Y->a∉cP ab
 Qj:∀{a},a∈Y->b_.heap.get? a=none
 hB:Bl S A aa ab (execs b ab) body
inductive FI(S:aW)(aa:List Str)(ab:Env)(Y:List Addr)(T:Nat->Heap->Prop)(bG:Wd)(b_:Shared)(wk:Wk)(tg:Tg)(body:PS)(N:Nat)(K:QK)(n:Nat)(s:Shared):Prop
 |mk{i W J af}:i+n=N->forR wk tg body n i af J K->v7 S aa ab Y T bG b_ i W af J s->FI S aa ab Y T bG b_ wk tg body N K n s
inductive WI(S:aW)(aa:List Str)(ab:Env)(bG:Wd)(b_:Shared)(c:PT)(body:PS)(K:QK)(n:Nat)(s:Shared):Prop
 |mk{W J af}:Ck c body n af J K->Pre S aa ab W af J s->dt (cP ab) bG b_ W s->WI S aa ab bG b_ c body K n s
section
variable{s1:Shared}{K:QK}
def Lx.pre(f:dt X W s W1 s1)(q:Lx S aa ab X W1 s1 K g s'):Lx S aa ab X W s K g s':=q.casesOn λa b c d=>.mk (f.trans a) b c d
def WP.Gb(f:dt (cP ab) W s W1 s1)(q:WP S A x (Lx S aa ab (cP ab) W1 s1 K) s'):WP S A x (Lx S aa ab (cP ab) W s K) s':=q.mono (Lx.pre f)
def QE{R:Result->Shared->Prop}{e:Value}(i:Nat->Shared->Prop)(turn:∀n s,i n s->WP S A (pyNext e) (Ml S A t e b ab R λs=>∃m,m<n/\i m s) s)(n:Nat)(h:i n s):codeAny (model pw S.w) A (.forLoop t e b [] ab) R s:=by
 refine codeAny_loop' rfl i (λn s o=>?_) n h;refine wpAny_noted ?_;refine ae (a4 (ae (wpAny_onRaise (wpAny_mono (turn n s o) (λr g a=>?_) j8))));cases r with
 |none=>exact ao (.inr ⟨rfl,codeAny_block (wpAny_execs_nil a)⟩)
 |some v=>
  refine ae (wpAny_mono a (λZ j c=>ae (wpAny_mono c (λZ k d=>ae (wpAny_mono d (λf l H=>?_) j8)) j8)) j8);cases f with
  |next=>exact ao (.inl ⟨rfl,H⟩)
  |cont=>exact ao (.inl ⟨rfl,H⟩)
  |brk=>exact ao H
  |ret v=>exact ao H
def Pre.YB(P:Pre S aa ab W af J s)(R:Rel S W J s'.heap)(k:∀{a},a∈cP ab->∀{o},s.heap.get? a=some o->s'.heap.get? a=some o):Pre S aa ab W af J s':=
 ⟨P.K,P.r.move (.refl W) (Apart.keep P.r.ap k) λm Z e=>k m e,R⟩
def v7.step(t:v7 S aa ab Y T bG b_ i W af J s)(f:dt X W s W' s')(p:Pre S aa ab W' jx bH s')(h:T i' s'.heap)(k:∀{a},a∈X->a∈cP ab++Y):v7 S aa ab Y T bG b_ i' W' jx bH s':=
 ⟨h,Apart.step t.sx f.todW,p,t.f.trans (f.mono k)⟩
def v7.own(H:Bn S A aa ab Y T bG b_ wk tg body N t b it)(ft:v7 S aa ab Y T bG b_ i W af J s)(f:dt (cP ab) W s W' s')(p:Pre S aa ab W' jx bH s'):v7 S aa ab Y T bG b_ i W' jx bH s':=
 ft.step f p (uG H.xe ft.sx f H.Dy ft.here) λm=>rL (.inl m)
def aaN(H:Bn S A aa ab Y T bG b_ wk tg body N t b it)(h:i+0=N)(ft:v7 S aa ab Y T bG b_ i W af J s)(e:wk.lC J λZ J=>K .next af J):
  WP S A (pyNext (.ref it)) (Ml S A t (.ref it) b ab (zz S aa ab bG b_ K) JJ) s:=
 (H.xe.2.2.1 ft.f.sub (h▸ft.here) ft.sx ft.pre.R e).mono λq=>q.casesOn λk a R e=>.mk (.mk (.mk (ft.f.todW.finish k H.Qj) (ft.f.toSh.trans a)) (ft.pre.YB R λm Z e=>k (λq=>H.Dy q m) e) .next e)
def YC(H:Bn S A aa ab Y T bG b_ wk tg body N t b it)(h:i+(n+1)=N)(ft:v7 S aa ab Y T bG b_ (i+1) W af J s)(q:Lx S aa ab (cP ab) W s (kFor K λaf J=>forR wk tg body n (i+1) af J K) g s'):
  Ga (zz S aa ab bG b_ K) (λs=>∃m,m<n+1/\FI S aa ab Y T bG b_ wk tg body N K m s) g s':=
 q.casesOn λ{W' f a bH} c P d e=>
 have ft:=ft.own H c P;have G(e:forR wk tg body n (i+1) a bH K):∃m,m<n+1/\FI S aa ab Y T bG b_ wk tg body N K m s':=⟨n,ba n,.mk ((Nat.succ_add i n).trans h) e ft⟩
 zy.casesOn d G G
  (λr e=>.mk (.mk (.mk (ft.f.todW.finish (λZ e=>e) H.Qj) ft.f.toSh) P (.ret r) e)) e
def aaO(H:Bn S A aa ab Y T bG b_ wk tg body N t b it)(c:i+(n+1)=N)(ft:v7 S aa ab Y T bG b_ i W af J s)(e:forR wk tg body (n+1) i af J K):
  WP S A (pyNext (.ref it)) (Ml S A t (.ref it) b ab (zz S aa ab bG b_ K) (λs=>∃m,m<n+1/\FI S aa ab Y T bG b_ wk tg body N K m s)) s:=
 (H.xe.2.1 ft.f.sub (c▸bU (Nat.succ_pos n)) ft.here ft.sx ft.pre.R e).mono λq=>q.casesOn λw=>w.mono λq=>q.casesOn λf R r h e=>
 have a:=ft.step f (ft.pre.step f (λm q=>H.Dy q m) R) h λm=>rL (.inr m)
 (SY .all H.hh a.pre H.ht r e).mono λq=>q.casesOn λf p e=>(H.hB p e).mono (YC H c (a.own H f p))
def YD(H:Bn S A aa ab Y T bG b_ wk tg body N t b it)(e:forR wk tg body N 0 af J K)(ft:v7 S aa ab Y T bG b_ 0 W af J s):
  codeAny (model pw S.w) A (.forLoop t (.ref it) b [] ab) (zz S aa ab bG b_ K) s:=
 QE (FI S aa ab Y T bG b_ wk tg body N K) (λn=>n.casesOn (λZ q=>q.casesOn λh e ft=>aaN H h ft e) λn Z q=>q.casesOn λh e ft=>aaO H h ft e) N (.mk (aD N) e ft)
def aaP(d:dt (cP ab) bG b_ W s)(q:Lx S aa ab (cP ab) W s (kFor K λaf J=>Ck c body n af J K) g s'):Ga (zz S aa ab bG b_ K) (λs=>∃m,m<n+1/\WI S aa ab bG b_ c body K m s) g s':=
 q.casesOn λ{W' f a bH} h P i e=>
 have b:=d.trans h;have G(e:Ck c body n a bH K):∃m,m<n+1/\WI S aa ab bG b_ c body K m s':=⟨n,ba n,.mk e P b⟩
 zy.casesOn i G G
  (λr e=>.mk (.mk b P (.ret r) e)) e
def HY{R:Result->Shared->Prop}(i:Nat->Shared->Prop)(turn:∀n s,i n s->WP S A (isTrue x ab (eval x ab)) (λz s=>pG z (WP S A (execs b ab) (Ga R λs=>∃m,m<n/\i m s) s) (R (.ok .next) s)) s)(n:Nat)(h:i n s):codeAny (model pw S.w) A (.whileLoop x b [] ab) R s:=
 codeAny_whileLoop i (λn s H=>wpAny_mono (turn n s H) (λz s=>z.casesOn (λq=>wpAny_execs_nil q) λq=>wpAny_mono q (λf s=>f.casesOn (λq=>q) (λq=>q) (λq=>q) λZ q=>q) j8) j8) n h
def Mm(h:xd S A aa ab (isTrue x ab (eval x ab)) c)(H:Bl S A aa ab (execs b ab) body)(P:Pre S aa ab W af J s)(e:Ck c body n af J K):codeAny (model pw S.w) A (.whileLoop x b [] ab) (zz S aa ab W s K) s:=
 HY (WI S aa ab W s c body K) (λn=>n.casesOn (λZ q=>q.casesOn λe P f=>az e) λn Z q=>q.casesOn λe P f=>(h P e).mono λ{z}=>z.casesOn (λq=>q.casesOn λa R e=>.mk (.mk (f.trans a.wide) (P.to a R) .next e)) λq=>q.casesOn λa R e=>(H (P.to a R) e).mono (aaP (f.trans a.wide))) n (.mk e P (.refl ..))
end
abbrev du(S:aW)(d:Nat)(v:List Str)(sc:Sc)(x:Stmt)(p:PS):Prop:=∀{A ab},f3 A d->ab.scope.names=sc->Bl S A v ab (PySem.exec x ab) p
section
variable{sc:Sc}{E:Sc->Expr->PE}{T:Sc->Expr->PT}{K:QK}
def iJ{x:Stmt}:du S d aa sc x gL:=λZ Z=>λZ e=>az e
def Gd{x:Stmt}(h:b=true->du S d aa sc x p):du S d aa sc x (gS b p):=b.casesOn (λZ=>λZ Z=>λZ e=>az e) (λh=>h rfl) h
def kK{v:Expr}{t:Option Expr}{n:Nat}(h:hF v=true):swapsWith v t n ab=Pure.pure false:=by
 cases v<;>first|rfl|exact ft h
def Lq.fl(P:Pre S aa ab W af J s)(q:Lq S W s Q v s')(k:∀{W' m},aF S W' m v->∀{bH},Q m bH->∃f,zy (aF S W') f g/\K f af bH):Lx S aa ab (cP ab) W s K g s':=
 q.casesOn λf R r e=>(k r e).elim λZ z=>.mk f.wide (P.to f R) z.1 z.2
def QF(K:xY ab):interactive ab=false:=by unfold interactive;exact rX K.kind rfl
def Ge{x:Stmt}(h:e=e')(k:du S d aa sc x e'):du S d aa sc x e:=h▸k
def QG(q:Q .next s):WP S A (dropValue (.Call f xs ks p) pos v) Q s:=by
 cases v with
 |ref a=>exact ae (a4 (ae (wpAny_runValue (codeAny_builtin entry_let_go (ao (ao q))))))
 |_=>exact ao q
def QH(h:a9 S d aa sc (.Call f xs ks p) (E sc (.Call f xs ks p))):du S d aa sc (.Expr (.Call f xs ks p) pos) (sE (E sc (.Call f xs ks p))):=λH a=>λP e=>by
 rw[arm_exec_Expr];refine rX (QF P.K) ?_;exact ae (a4 (ae (ao (WP.bind (h H a P e) λq=>QG (q.fl P λZ=>λe=>⟨_,.next,e⟩)))))
def HZ(H:a9 S d aa sc x (E sc x)):du S d aa sc (.Expr x pos) (Qo x (λZ Z Z=>sE (E sc x)) gL):=
 (vx x).casesOn (motive:=λx Z=>a9 S d aa sc x (E sc x)->du S d aa sc (.Expr x pos) (Qo x (λZ Z Z=>sE (E sc x)) gL)) (λZ=>iJ) (λZ=>iJ) (λZ=>iJ) (λZ=>iJ) (λh=>QH h) (λZ=>iJ) (λo Z=>Ge (o.e _ _ _ _ _ _ _) iJ) H
def YE(h:a9 S d aa sc x (E sc x)):du S d aa sc (.Return (some x) pos) (sR (E sc x)):=λH a=>λP e=>wpAny_Return_some ((h H a P e).mono λq=>q.fl P λr=>λe=>⟨_,.ret r,e⟩)
def QI:du S d aa sc (.Continue pos) rM:=λZ Z=>λP e=>ae (a4 (ao (.mk (.refl ..) P .cont e)))
def zA{v:Expr}(H:swapsWithSole [t] v pos.line ab=Pure.pure false)(h:WP S A (eval v ab) (λV s=>WP S A (swappedStores [t] v ab>>=λo=>assignStores ab V o ((assignEach [t] ab).map (·.2))) Q s) s):WP S A (PySem.exec (.Assign [t] v pos) ab) Q s:=by
 rw[arm_exec_Assign];refine rX H ?_;exact ae (a4 (ae (ao (rX (bc bP) (WP.bind h λq=>q)))))
def zB{v:Expr}(H:swappedStores [t] v ab=Pure.pure none)(a:assignEach [t] ab=[(false,assign t ab)])(h:WP S A (assign t ab v') (λZ=>Q .next) s):WP S A (swappedStores [t] v ab>>=λo=>assignStores ab v' o ((assignEach [t] ab).map (·.2))) Q s:=rX H (rX a (ae (ao (ae (h.mono λq=>ao q)))))
def Ls.lx(q:Ls S aa ab X W s (K .next) s'):Lx S aa ab X W s K .next s':=q.casesOn λf P e=>.mk f P .next e
def Gf{v:Expr}(h:nB aa sc i x)(H:swapsWithSole [x] v pos.line ab=Pure.pure false)(a:ab.scope.names=sc)(b:ug S A aa ab (eval v ab) e):Bl S A aa ab (PySem.exec (.Assign [x] v pos) ab) (sA i e):=λP e=>
 zA H ((b P e).mono λq=>q.casesOn λf R r e=>zB (h.casesOn λZ Z=>rfl) (h.casesOn λZ Z=>rfl) ((vR .all (P.to f R) (a▸h) r e).mono λq=>(Ls.pre f.wide q).lx))
inductive v8(t:Expr)(ab:Env)(v:Expr)(pos:Pos):Prop
 |p:swapsWithSole [t] v pos.line ab=Pure.pure false->v8 t ab v pos
 |u:PySem.exec (.Assign [t] v pos) ab=(do standAt pos;evalThenUse v ab (assign t ab);return .next)->v8 t ab v pos
def H0(H:nB aa sc i t):v8 t ab (.ListComp x gs scope p) pos:=
 H.casesOn λ{y q} _ _=>by
  have h:∃b,swapsWith (.ListComp x gs scope p) (some (.Name y q)) pos.line ab=Pure.pure b:=⟨_,rfl⟩;exact h.elim λb=>b.casesOn (λh=>.p h) λh=>.u (exec_Assign_Name_used _ _ _ _ h)
def Mn(q:gE b e af J Q):b=true/\e af J Q:=b.casesOn (λq=>az q) (λq=>⟨rfl,q⟩) q
def QJ(X:Cx S C d)(a:∀sc x,a9 S d aa sc x (E sc x))(l:∀sc x,gD S d aa sc x (T sc x))(g:nB aa sc i y)(c:pY aa scope.names t=some tg)(j:ji sc E mw=(k,src,b)):
  du S d aa sc (.Assign [y] (.ListComp x [⟨t,mw,fs,n⟩] scope p) pos) (sA i (gE (b&&n==0&&HC (fb tg)&&mX k tg&&rm aa sc (fb tg) scope) (fO (E (eA sc scope.names) x) tg k src (fs.map (T (eA sc scope.names)))))):=
 λ{A ab} f h=>(H0 g).casesOn (λm=>Gf g m h (v5 X a l c j f h)) λo=>λP e=>by
  refine rX o ?_;have H:=aA (aA (Mn e).1).1;obtain rfl:=eq_of_beq (aA (aA H.1).1).2;exact ae (a4 (ae (ae ((Bb (F_ a l f h (j9 c) (aA H.1).2 (aA (Mn e).1).2 (rq X (a sc) f h j (aA (aA H.1).1).1 (oy (j9 c) H.2)).1) P (h▸g) ((rq X (a sc) f h j (aA (aA H.1).1).1 (oy (j9 c) H.2)).2 P (Mn e).2)).mono λq=>ao (ao q.lx)))))
def QL(X:Cx S C d)(h:∀sc x,a9 S d aa sc x (E sc x))(H:∀sc x,gD S d aa sc x (T sc x))(a:nB aa sc i y):du S d aa sc (.Assign [y] (.ListComp x gs scope p) pos) (sA i (qw aa sc E T x gs scope)):=
 match gs with
 |[]=>λZ Z=>λZ e=>az e
 |_::_::_=>λZ Z=>λZ e=>az e
 |[⟨t,it,fs,n⟩]=>match q:pY aa scope.names t with
  |none=>Ge (by unfold qw;dsimp only;exact rX q rfl) iJ
  |some c=>Ge (by unfold qw;dsimp only;exact rX q rfl) (QJ (b:=(ji sc E it).2.2) (src:=(ji sc E it).2.1) (k:=(ji sc E it).1) X h H a q rfl)
def QM{v:Expr}(X:Cx S C d)(h:hF v=true)(H:sG S d aa D)(b:nB aa sc i y):du S d aa sc (.Assign [y] v pos) (sA i (LQ C aa D.e D.t sc v)):=λc a=>Gf b (kK h) a (DX X H.e H.t sc v c a)
def QN{v:Expr}(X:Cx S C d)(H:sG S d aa D)(h:nB aa sc i y):du S d aa sc (.Assign [y] v pos) (sA i (LQ C aa D.e D.t sc v)):=by
 cases v with
 |ListComp x g s p=>
  exact QL X H.e H.t h
 |SetComp=>exact λZ Z=>λZ e=>az e
 |DictComp=>exact λZ Z=>λZ e=>az e
 |_=>exact QM X rfl H h
def QO{v:Expr}(X:Cx S C d)(h:nB aa sc i y):du S d aa sc (.Assign [y] v pos) (sA i ((den C aa n).e sc v)):=
 match n with
 |0=>λZ Z=>λZ e=>az e
 |n+1=>QN X (zx X n) h
end
def Mo(S:aW)(A:Around)(v:List Str)(ab:Env)(K:Loc->MH->Prop)(t:List Mt)(xs:List Expr):Prop:=∀{ms vs W s af J},Pre S v ab W af J s->aC S W ms vs->nF t ms af J K->WP S A (assignInOrder (xs.map λx=>assign x ab) vs) (λZ=>Ls S v ab (cP ab) W s K) s
inductive DY(aa:List Str)(sc:Sc)(E:Sc->Expr->PE):Mt->Expr->Prop
 |name{i x}:nB aa sc i x->DY aa sc E (.name i) x
 |sub{x y p}:DY aa sc E (.sub (E sc x) (E sc y)) (.Subscript x y p)
inductive jz(aa:List Str)(sc:Sc)(E:Sc->Expr->PE):List Mt->List Expr->Prop
 |nil:jz aa sc E [] []
 |cons{t ts x xs}:DY aa sc E t x->jz aa sc E ts xs->jz aa sc E (t::ts) (x::xs)
inductive fV(S:aW)(W:Wd)(aa:List Str)(sc:Sc):List (Nat×MV)->List Str->List Value->Prop
 |nil:fV S W aa sc [] [] []
 |cons{i x m v l xs vs}:aa[i]?=some x->eS sc x=true->aF S W m v->fV S W aa sc l xs vs->fV S W aa sc ((i,m)::l) (x::xs) (v::vs)
noncomputable def jk:Loc->List (Nat×MV)->Loc
 |af,[]=>af
 |af,p::l=>jk (af.set p.1 (some p.2)) l
def Mp(S:aW)(A:Around)(v:List Str)(ab:Env)(W:Wd)(K:Loc->MH->Prop)(l:List (Nat×MV))(ns:List Str)(vs:List Value):Prop:=∀{W' s af J},Sub W W'->Pre S v ab W' af J s->K (jk af l) J->WP S A (assignInOrder (ns.map λn=>bindName ab n) vs) (λZ=>Ls S v ab (cP ab) W' s K) s
inductive Gg(S:aW)(W:Wd)(aa:List Str)(sc:Sc)(ns:List Str)(vs:List Value)(P:List (Nat×MV)->Prop):Prop
 |mk{l}:fV S W aa sc l ns vs->P l->Gg S W aa sc ns vs P
section
variable{s1:Shared}{sc:Sc}{K:Loc->MH->Prop}
def Lu.pre(f:dt [] W s W1 s1)(q:Lu S W1 s1 Q s'):Lu S W s Q s':=q.casesOn λg=>.mk (f.trans g)
def Lu.ls(P:Pre S aa ab W af J s)(q:Lu S W s Q s')(k:∀{J},Q J->K af J):Ls S aa ab (cP ab) W s K s':=q.casesOn λf R e=>.mk f.wide (P.to f R) (k e)
def H2(e:gJ o i m J Q):(∃a,o=.lst a/\hY i (λi=>dj (dh a) λl=>dj (idx l.length i) λk=>iu a (l.set k m)) J Q)\/∃a,o=.iD a/\t9 i (λs=>dj (kv a) λl=>ke (l.length<1000) (wr a (.dict (stored l s m)))) J Q:=by
 unfold gJ at e;cases o with
 |lst a=>exact .inl ⟨a,rfl,e⟩
 |iD a=>exact .inr ⟨a,rfl,e⟩
 |_=>exact az e
def H4(R:Rel S W J s.heap)(b:aF S W o vo)(ri:aF S W i vi)(r:aF S W m v)(e:gJ o i m J Q):WP S A (setItem vo vi v) (λZ=>Lu S W s (Q ())) s:=
 (H2 e).elim
 (λz=>z.elim λa z=>(ek z.2 ri).casesOn λe=>have b:=z.1▸b;(R.r_ b e).casesOn λq e=>(K_ e).elim λk e=>Hl R q r e.1 e.2.1 (r8 e.2.2))
 (λz=>z.elim λa z=>(sg z.2 ri).casesOn λe=>have b:aF S W (.iD a) vo:=z.1▸b;(R.Ya b e).casesOn λq e=>Dr R q r (by with_unfolding_all exact hA e))
def Mq(h:ug S A aa ab (eval x ab) eo)(H:ug S A aa ab (eval y ab) ei)(P:Pre S aa ab W af J s)(r:aF S W m v)(e:eo af J (IV ei m af Q)):WP S A (assign (.Subscript x y p) ab v) (λZ=>Lu S W s (Q ())) s:=ae (aU ((h P e).mono λq=>q.casesOn λ{_ _ b} f R c e=>ae (aU ((H (P.to f R) e).mono λq=>q.casesOn λa d ri e=>ae (a4 (ae (aU ((H4 d (c.mono a.sub b _) ri (r.mono (f.sub.trans a.sub) m _) e).mono λq=>wpAny_release' (Lu.pre (f.trans a) q)))))))))
def sH{t:Mt}(h:(match iy aa sc x with|some i=>some (Mt.name i)|none=>none)=some t):DY aa sc E t x:=by
  cases q:iy aa sc x with
  |none=>rw[q]at h;exact nn h
  |some i=>rw[q]at h;exact aj h▸.name (mZ q)
def Mr{t:Mt}(h:F4 aa sc E x=some t):DY aa sc E t x:=
 (vx x).casesOn (λ{n p} h=>sH h) (λ{l a p} h=>sH h) (λh=>sH h) (λ{a b p} h=>by
  replace h:(match iV b with|true=>some (Mt.sub (E sc a) (E sc b))|false=>none)=some t:=h;cases q:iV b with
  |true=>rw[q]at h;exact aj h▸.sub
  |false=>rw[q]at h;exact nn h) (λh=>sH h) (λh=>sH h) (λo h=>sH (ag (o.e _ _ _ _ _ _ _) h)) h
def H5:∀{xs:List Expr}{t:List Mt},dM (F4 aa sc E) xs=some t->jz aa sc E t xs:=by
 intro m;induction m with
 |nil=>exact λe=>aj e▸.nil
 |cons _ xs i=>exact λe=>rg (P:=λt=>jz aa sc E t (_::xs)) e λa b=>.cons (Mr a) (i b)
def jz.star(h:jz aa sc E ts xs):assignEach xs ab=xs.map (λx=>(false,assign x ab)):=
 jz.rec rfl (λh Z i=>(h.casesOn (motive:=λZ x Z=>∀xs,assignEach (x::xs) ab=(false,assign x ab)::assignEach xs ab) (λh Z=>h.each) (λZ=>rfl) _).trans (congrArg (_::·) i)) h
def jz.len(h:jz aa sc E ts xs):ts.length=xs.length:=jz.rec rfl (λZ Z i=>congrArg (·+1) i) h
def aaQ{t:Mt}(a:∀x,a9 S d aa sc x (E sc x))(b:f3 A d)(H:ab.scope.names=sc)(h:DY aa sc E t x)(P:Pre S aa ab W af J s)(r:aF S W m v)(e:nF (t::ts) (m::ms) af J K):WP S A (assign x ab v) (λZ=>Ls S aa ab (cP ab) W s (nF ts ms · · K)) s:=
 h.casesOn
  (λh e=>vR .all P (H▸h) r e) (λ{x y p} e=>(Mq (a x b H) (a y b H) P r e).mono λq=>q.ls P λe=>e) e
def Ms:Mo S A aa ab K [] []:=by
 intro m _ _ _ _ _ P r e;refine I λk=>?_;cases m with
 |nil=>exact k (r▸ao (.mk (.refl ..) P e))
 |cons _ _=>exact e.elim
def H6{t:Mt}(H:∀x,a9 S d aa sc x (E sc x))(b:f3 A d)(c:ab.scope.names=sc)(h:DY aa sc E t x)(i:Mo S A aa ab K ts xs):Mo S A aa ab K (t::ts) (x::xs):=by
 intro a _ _ _ _ _ P r e;refine I λk=>?_;cases a with
 |nil=>exact e.elim
 |cons m a=>exact k (Cs.casesOn r λ{v vs} r gC=>ae (aU ((aaQ H b c h P r e).mono λz=>z.casesOn λf p z=>WP.A4 f (i p (gC.mono f.sub a _) z))))
def YF(H:∀x,a9 S d aa sc x (E sc x))(a:f3 A d)(b:ab.scope.names=sc)(h:jz aa sc E t xs):Mo S A aa ab K t xs:=jz.rec (motive:=λt xs Z=>Mo S A aa ab K t xs) Ms (λh Z i=>H6 H a b h i) h
def DZ{l:List MV}(a:∀x,a9 S d aa sc x (E sc x))(H:f3 A d)(b:ab.scope.names=sc)(h:jz aa sc E ts xs)(P:Pre S aa ab W af J s)(q:j6 S W s.heap l v)(c:ts.length=l.length)(e:nF ts l af J K):
  WP S A (assign (.Tuple xs k p) ab v) (λZ=>Ls S aa ab (cP ab) W s K) s:=by
 rw[arm_assign_Tuple];refine rX h.star ?_
 exact ae (a4 (x4 H.handled q (cX.trans (ag h.len c)) tO λk f=>
    rX map_map (WP.A4 (sr k) (YF a H b h (P.to (sr k) (P.R.keeps k)) f e))))
def D0:∀(a:List (Nat×MV))(af:Loc)(b:List (Nat×MV)),jk af (a++b)=jk (jk af a) b:=by
 intro m;induction m with
 |nil=>exact λZ Z=>rfl
 |cons _ a i=>exact λZ b=>i _ b
def Bp:∀(l:List (Nat×MV))(af:Loc),i∉l.map Prod.fst->jk (af.set i o) l=(jk af l).set i o:=by
 intro a;induction a with
 |nil=>exact λZ Z=>rfl
 |cons p l b=>
  intro af h;show jk ((af.set i o).set p.1 (some p.2)) l=(jk (af.set p.1 (some p.2)) l).set i o;exact rX (set_comm _ _ (λe=>h (mem_cons.2 (.inl e)))) (b _ λm=>h (fg m))
def D2:∀(l:List (Nat×MV))(af:Loc),(l.map Prod.fst).Nodup->jk af l.reverse=jk af l:=by
 intro m;induction m with
 |nil=>exact λZ Z=>rfl
 |cons p l i=>
  intro af h;refine rX reverse_cons ?_;rw[D0];refine rX (i af (mH h).2) ?_;exact(Bp l af (mH h).1).symm
def fV.app(h:fV S W aa sc l ns vs)(H:fV S W aa sc l' ns' y4):fV S W aa sc (l++l') (ns++ns') (vs++y4):=
 fV.rec H (λa b c Z i=>.cons a b c i) h
def fV.rev(h:fV S W aa sc l ns vs):fV S W aa sc l.reverse ns.reverse vs.reverse:=
 fV.rec .nil (λa b c Z i=>rX reverse_cons (rX reverse_cons (rX reverse_cons (i.app (.cons a b c .nil))))) h
def fV.mem(h:fV S W aa sc l ns vs):∀i,i∈l.map Prod.fst->∃x,x∈ns/\aa[i]?=some x:=
 fV.rec (λZ m=>ak m d6) (λa Z Z Z b j m=>(hH m).elim (λe=>⟨_,eE,e▸a⟩) λm=>(b j m).elim λx z=>⟨x,fg z.1,z.2⟩) h
def fV.nd(h:fV S W aa sc l ns vs):ns.Nodup->(l.map Prod.fst).Nodup:=
 fV.rec (λZ=>nodup_nil) (λa Z Z b i n=>nodup_cons.2 ⟨λm=>(b.mem _ m).elim λZ z=>(mH n).1 (aj (ag z.2 a)▸z.1),i (mH n).2⟩) h
def Mu(h:fV S W aa ab.scope.names l ns vs):Mp S A aa ab W K l ns vs:=
 fV.rec (motive:=λl ns vs Z=>Mp S A aa ab W K l ns vs) (λZ P e=>ao (.mk (.refl ..) P e))
 (λ{i x m v l xs vs} a b c _ d{W' s af J} sub P e=>ae (aU (wpAny_bindName ((A3 .all P a b (c.mono sub m _) e).mono λz=>z.casesOn λf p z=>WP.A4 f (d (sub.trans f.sub) p z))))) h
def H7{a β:Type}{f:a->Option β}:∀{l:List a}{r:List β},dM f l=some r->r.length=l.length:=by
 intro m;induction m with
 |nil=>exact λe=>aj e▸rfl
 |cons _ l i=>exact λe=>rg (P:=λr=>r.length=_) e λZ b=>congrArg (·+1) (i b)
def YG(h:jz aa sc E T xs):∀{ns m vs af},dM (vZ aa) T=some ns->aC S W m vs->nF T m af J K->Gg S W aa sc ns vs (λl=>K (jk af l) J):=
 jz.rec (motive:=λT Z Z=>∀{ns m vs af},dM (vZ aa) T=some ns->aC S W m vs->nF T m af J K->Gg S W aa sc ns vs (λl=>K (jk af l) J))
 (λ{ns m vs _} n r e=>match m,r,e with
  |[],r,e=>Eq.casesOn r (aj n▸.mk .nil e)
  |_::_,_,e=>az e)
 (λ{t T x xs} h _ i{ns m vs af} n r e=>rg (P:=λns=>Gg S W aa sc ns vs (λl=>K (jk af l) J)) n λ{y ns} a b=>match m,r,e with
  |[],_,e=>az e
  |m0::m,r,e=>h.casesOn (λh a e=>Cs.casesOn r λr gC=>(i b gC e).casesOn λq e=>h.casesOn λH c=>.mk (.cons a (aj (ag H a)▸c) r q) e) (λa=>nn a) a e) h
def QP{l:List MV}{st:List (Value->Sem Unit)}(h:jz aa ab.scope.names E ts xs)(hh:A.handled=none)(P:Pre S aa ab W af J s)(q:j6 S W s.heap l v)(c:ts.length=l.length)(e:nF ts l af J K)(H:dM (vZ aa) ts=some ns)(n:ns.Nodup)(k:∀{s'},Ls S aa ab (cP ab) W s K s'->Q .next s'):
  WP S A (assignStores ab v (some ns) st) Q s:=by
 refine ae (wpAny_rule (ae ?_));refine rX ((H7 H).trans c) ?_;refine A5 hh q λa d=>?_;exact(YG h H d e).casesOn λ{l'} b e=>ae (WP.mono (Mu b.rev (.refl W) (P.to (sr a) (P.R.keeps a)) ((D2 l' af (b.nd n)).symm▸e)) λq=>ao (k (Ls.pre (sr a) q)))
end
inductive QQ(aa:List Str)(sc:Sc)(ts:List Mt)(x v:Expr):Prop
 |n:swappedStores [x] v (vY sc)=Pure.pure none->QQ aa sc ts x v
 |s{ns}:swappedStores [x] v (vY sc)=Pure.pure (some ns)->dM (vZ aa) ts=some ns->ns.Nodup->QQ aa sc ts x v
def Mv(S:aW)(A:Around)(l:List Stmt)(ab:Env)(Q:Flow->Shared->Prop)(g:Flow)(s:Shared):Prop:=match g with
 | .next=>WP S A (execs l ab) Q s
 |g=>Q g s
structure H8(S:aW)(d:Nat)(aa:List Str)(D:DP):Prop extends sG S d aa D where
 n:∀{sc pos i y v},nB aa sc i y->du S d aa sc (.Assign [y] v pos) (sA i (D.e sc v))
def aaR(Q:Flow->Shared->Prop)(E:Value->Shared->Prop)(r:Result)(s:Shared):Prop:=match r with
 | .ok f=>Q f s
 | .error e=>E e s
section
variable{sc:Sc}{T:Sc->Expr->PT}{K:QK}
def aaS(X:Cx S C d)(n:Nat):H8 S d aa (den C aa n):=⟨zx X n,λh=>QO X h⟩
def tW(K:xY ab):swappedStores [x] v ab=swappedStores [x] v (vY ab.scope.names):=by
 cases ab with
 |mk sc=>
  cases sc;obtain rfl:=K.kind;rfl
def swo(h:zm aa sc ts x v=true):QQ aa sc ts x v:=by
 refine I λk=>?_;unfold zm at h;cases q:pureOf (swappedStores [x] v (vY sc))with
 |none=>have h:=q▸h;exact ft h
 |some o=>
  have h:=q▸h;cases o with
  |none=>exact k (.n (of_pureOf q))
  |some ns=>
   replace h:(match dM (vZ aa) ts with|some N=>ns==N&&yK ns|none=>false)=true:=h;cases z:dM (vZ aa) ts with
   |none=>have h:=z▸h;exact ft h
   |some N=>
    rw[z]at h;obtain rfl:=eq_of_beq (aA h).1;exact k (.s (of_pureOf q) z (ps (aA h).2))
def YH(e:yx ts af K l J):ts.length=l.length/\nF ts l af J (K .next):=by
 unfold yx at e;cases q:Nat.beq ts.length l.length with
 |true=>rw[q]at e;exact⟨lT q,e⟩
 |false=>rw[q]at e;exact e.elim
def QR(c:∀x,a9 S d aa sc x (E sc x))(b:f3 A d)(H:ab.scope.names=sc)(P:Pre S aa ab W af J s)(h:jz aa sc E ts xs)(f:QQ aa sc ts (.Tuple xs k p) v)(q:j6 S W s.heap l v')(e:yx ts af K l J):
  WP S A (swappedStores [.Tuple xs k p] v ab>>=λo=>assignStores ab v' o ((assignEach [.Tuple xs k p] ab).map (·.2))) (Lx S aa ab (cP ab) W s K) s:=
 have z:=YH e
 f.casesOn (λa=>zB ((tW P.K).trans (H.symm▸a)) rfl ((DZ c b H h P q z.1 z.2).mono Ls.lx))
 λa g n=>rX (tW P.K) (rX H (rX a (ae (ao (QP (H.symm▸h) b.handled P q z.1 z.2 g n Ls.lx)))))
def QS(H:∀x,a9 S d aa sc x (E sc x)):du S d aa sc (.Assign [.Tuple xs k p] v pos) (DG aa sc E (.Tuple xs k p) v xs):=by
 unfold DG;cases q:dM (F4 aa sc E) xs with
 |none=>exact iJ
 |some t=>exact Gd λh=>have h:=aA h;λa b=>λP e=>zA (kK h.1) ((H v a b P e).mono λz=>z.casesOn λf R r e=>(R.items r e).casesOn λz e=>WP.Gb f.wide (QR H a b (P.to f R) (H5 q) (swo h.2) z e))
def QT(H:∀x,a9 S d aa sc x (E sc x)):du S d aa sc (.Assign [.Subscript x i p] v pos) (LR sc E v x i):=
 Gd λh=>have h:=aA h;λa b=>λP e=>zA (kK h.1) ((H v a b P e).mono λz=>z.casesOn λf R r e=>zB rfl rfl ((Mq (H x a b) (H i a b) (P.to f R) r e).mono λq=>Lx.pre f.wide (q.ls (P.to f R) λe=>e).lx))
def oz(H:H8 S d aa D):du S d aa sc (.Assign [t] v pos) (DH aa sc D.e t v):=by
 unfold DH;cases q:iy aa sc t with
 |none=>exact iJ
 |some i=>exact H.n (mZ q)
def YI(H:H8 S d aa D):du S d aa sc (.Assign [t] v pos) (LS aa sc D.e t v):=
 (vx t).casesOn (oz H) (QS (H.e sc)) (oz H) (QT (H.e sc)) (oz H) (oz H) λo=>Ge ((o.e _ _ _ _ _ _ _).trans (o.e _ _ _ _ _ _ _)) (oz H)
def QU(H:H8 S d aa D):du S d aa sc (.Assign l v pos) (LU l (λt=>LS aa sc D.e t v) gL):=
 match l with
 |[]=>iJ
 |_::_::_=>iJ
 |[_]=>YI H
set_option backward.match.sparseCases true in
def D3{x:Stmt}(h:WP S A (PySem.exec x ab) (Mv S A l ab Q) s):WP S A (execs (x::l) ab) Q s:=by
 exact h.bind λ{g _} q=>by
  cases g with
  |next=>exact q
  |_=>exact ao q
def YJ(h:Bl S A aa ab (execs l ab) r)(q:Lx S aa ab (cP ab) W s (kS r K) g s'):Mv S A l ab (Lx S aa ab (cP ab) W s K) g s':=
 q.casesOn λ{W' f b bH} a P c e=>
 zy.casesOn c (λe=>WP.Gb a (h P e)) (λe=>.mk a P .cont e) (λr e=>.mk a P (.ret r) e) e
def YK:Bl S A aa ab (execs [] ab) sN:=λP e=>wpAny_execs_nil (.mk (.refl ..) P .next e)
def YL(q:Lx S aa ab (cP ab) W s K g s'):Mv S A [] ab (Lx S aa ab (cP ab) W s K) g s':=by
 cases g with
 |next=>exact wpAny_execs_nil q
 |_=>exact q
theorem mz(h:∀x,du S d aa sc x (F x))(H:f3 A d)(a:ab.scope.names=sc):∀l:List Stmt,Bl S A aa ab (execs l ab) (gu F l)
 |[]=>YK
 |[x]=>λP e=>D3 ((h x H a P e).mono YL)
 |x::y::l=>λP e=>D3 ((h x H a P e).mono (YJ (mz h H a (y::l))))
def aaT(g:∀x,du S d aa sc x (F x))(i:gD S d aa sc c (T sc c)):du S d aa sc (.If c a b pos) (sI (T sc c) (gu F a) (gu F b)):=λh H=>λP e=>ae (a4 (WP.B (i h H P e) λ{v _ _ _}=>v.casesOn (λf R e=>WP.Gb f.wide (mz g h H b (P.to f R) e)) λf R e=>WP.Gb f.wide (mz g h H a (P.to f R) e)))
def zz.out{E:Value->Shared->Prop}(q:zz S aa ab W s K r s')(k:∀{g},Lx S aa ab (cP ab) W s K g s'->Q g s'):aaR Q E r s':=by
 cases q with
 |mk q=>exact k q
def H9(a:∀x,du S d aa sc x (F x))(c:gD S d aa sc x (T sc x)):du S d aa sc (.While x b [] pos) (sW (T sc x) (gu F b)):=λh H=>λP e=>
 (show∃n,TP (T sc x) (gu F b) n _ _ _ by with_unfolding_all exact e).elim λn e=>wpAny_While (codeAny_mono (Mm (c h H) (mz a h H b) P (by with_unfolding_all exact e)) λZ Z q=>q.out id)
def QW(j:∀x,du S d aa sc x (F x))(o:∀{A ab},f3 A d->ab.scope.names=sc->zw S A aa ab t i k src)(l:mn aa sc tg t):du S d aa sc (.For t i b [] pos) (sF tg k src (gu F b)):=λH a=>λP e=>
 wpAny_For (((o H a).2 P e).mono λq=>q.casesOn λf n w=>w.mono λq=>q.casesOn λ{i Y T k s} W u c h g v cN e=>
  have p:=P.to f n
  codeAny_mono (YD ⟨H.handled,W,a.symm▸l,λm q=>(p.r.ap q).1 (h m),h,mz j H a b⟩ (by with_unfolding_all exact e) ⟨u,c,p.to g v,g.wide⟩) λZ Z q=>q.out (Lx.pre f.wide)) (o H a).1
def nil_of(h:isNil l=true):l=[]:=l.casesOn (λZ=>rfl) (λZ Z=>ft) h
def YM(X:Cx S C d)(c:∀x,a9 S d aa sc x (E sc x))(e:∀x,du S d aa sc x (F x))(a:pY aa sc t=some tg)(f:ji sc E it=(k,src,q)):du S d aa sc (.For t it b l pos) (gS (q&&mX k tg&&isNil l) (sF tg k src (gu F b))):=
 Gd λh=>have H:=aA h;nil_of H.2▸QW e (λg i=>rq X c g i f (aA H.1).1 (oy (j9 a) (aA H.1).2)) (j9 a)
def YN(X:Cx S C d)(h:∀x,a9 S d aa sc x (E sc x))(H:∀x,du S d aa sc x (F x)):du S d aa sc (.For t it b l pos) (match pY aa sc t with
  |some a=>(match ji sc E it with
   |(k,src,q)=>gS (q&&mX k a&&isNil l) (sF a k src (gu F b)))
  |none=>gL):=
 match z:pY aa sc t with
 |none=>iJ
 |some _=>YM (k:=(ji sc E it).1) (src:=(ji sc E it).2.1) (q:=(ji sc E it).2.2) X h H z rfl
def Mw(H:∀x,du S d aa sc x (F x))(a:gD S d aa sc x (T sc x)):du S d aa sc (.While x b l pos) (gS (isNil l) (sW (T sc x) (gu F b))):=
 Gd λh=>nil_of h▸H9 H a
def QX(X:Cx S C d)(H:H8 S d aa D)(h:∀x,du S d aa sc x (F x))(x:Stmt):du S d aa sc x (stS aa D sc F x):=by
 cases x with
 |Expr x p=>exact(HZ (H.e sc x):du S d aa sc (.Expr x p) _)
 |Assign l v p=>exact(QU H:du S d aa sc (.Assign l v p) _)
 |Return x p=>
  cases x with
  |none=>exact(iJ:du S d aa sc _ gL)
  |some x=>exact(YE (H.e sc x):du S d aa sc (.Return (some x) p) _)
 |If c a b p=>exact(aaT h (H.t sc c):du S d aa sc (.If c a b p) _)
 |For t i b l p=>exact(YN X (H.e sc) h:du S d aa sc (.For t i b l _) _)
 |While c b l p=>exact(Mw h (H.t sc c):du S d aa sc (.While c b l p) _)
 |Continue p=>exact(QI:du S d aa sc (.Continue p) _)
 |_=>exact(iJ:du S d aa sc _ gL)
def Mx(X:Cx S C d)(H:H8 S d aa D):∀n x,du S d aa sc x (LV aa D sc n x):=by
 intro m;induction m with
 |zero=>exact λZ=>iJ
 |succ n i=>exact λx=>QX X H (i) x
def QY(X:Cx S C d)(h:f3 A d)(H:ab.scope.names=sc):Bl S A aa ab (execs l ab) (Bc C aa sc l):=mz (Mx X (aaS X 24) 12) h H l
end
abbrev NV:=List (Str×Value)
def uJ{n:Str}(h:x≠n):(x==n)=false:=beq_eq_false_iff_ne.2 h
theorem mA:∀{N:List Str} {V:List Value} {i:Nat} {x:Str},N.Nodup->N[i]?=some x->(N.zip V).lookup x=V[i]?
 |[],_,_=>λZ h=>nn h
 |_::_,[],_=>λZ Z=>rfl
 |n::ns,v::vs,0=>λZ h=>by
  obtain rfl:=aj h;refine rX zip_cons_cons ?_;refine rX lookup_cons ?_;rw[beq_self_eq_true];rfl
 |n::ns,v::vs,i+1=>λH h=>rX zip_cons_cons (rX lookup_cons (rX (uJ (λq:_=n=>(mH H).1 (q▸(gh h:_∈ns)))) (mA (mH H).2 h)))
theorem oA:∀{N:List Str} {V:List Value} {x:Str},x∉N->(N.zip V).lookup x=none
 |[],_=>λZ=>rfl
 |_::_,[]=>λZ=>rfl
 |n::ns,v::vs=>λh=>rX zip_cons_cons (rX lookup_cons (rX (uJ (λq:_=n=>h (mem_cons.2 (.inl q)))) (oA λq=>h (fg q))))
def WP.no[Decidable c](h:¬c)(k:WP S A b Q s):WP S A (if c then a else b) Q s:=(bc h).symm▸k
theorem zC{f:Str×Value->NV->Sem (ForInStep NV)}(H:∀n d a,f (n,d) a=if(a.lookup n).isNone=true then Pure.pure (.yield (a++[(n,d)]))else Pure.pure (.yield a)):∀{ns:List Str}{D:List Value}{p:NV}{j:Nat},
  ns.Nodup->D.length=ns.length->(∀{i x},ns[i]?=some x->i<j->(p.lookup x).isNone=false)->(∀{i x},ns[i]?=some x->j<=i->p.lookup x=none)->forIn (ns.zip D) p f=Pure.pure (p++(ns.drop j).zip (D.drop j))
 |[],_,p,j=>λZ Z Z Z=>by refine rX drop_nil ?_;rw[zip_nil_left,zip_nil_left,append_nil];rfl
 |_::_,[],_,_=>λZ h Z Z=>nomatch h
 |n::ns,d::D,p,0=>λb g Z c=>by
  refine I λl=>?_;refine l (rX zip_cons_cons ?_);rw[forIn_cons,H];refine rX (aO (rX (c (i:=0) rfl aZ) rfl)) ?_;refine(zC H (mH b).2 (bz g) (λZ h=>ak h (Nat.not_lt_zero _)) (λ{i x} e _=>?_)).trans ?_
  ·refine rX lookup_append (rX (c (i:=i+1) e aZ) (rX lookup_cons (rX (uJ (λq:x=n=>(mH b).1 (q▸(gh e:x∈ns)))) ?_)));rfl
  ·rw[append_assoc];rfl
 |n::ns,d::D,p,j+1=>λb g k c=>by
  refine rX zip_cons_cons ?_;rw[forIn_cons,H];refine rX (bc (by exact rX (k rfl (Nat.succ_pos _)) (bP))) ?_;exact zC H (mH b).2 (bz g) (λ{i x} e h=>k e (Nat.succ_lt_succ h)) (λ{i x} e h=>c e (Nat.succ_le_succ h))
theorem Bq:∀(ns:List Str) (vs w:List Value),ns.zip (vs++w)=ns.zip vs++(ns.drop vs.length).zip w
 |[],_=>λZ=>by refine rX drop_nil ?_;rfl
 |_::_,[]=>λZ=>rfl
 |_::ns,_::vs=>λw=>congrArg (_::·) (Bq ns vs w)
theorem oB{f:NV}:∀{N:List Str} {V:List Value},V.length=N.length->(∀{i:Nat}{x:Str},N[i]?=some x->f.lookup x=V[i]?)->
  N.filterMap (λn=>(f.lookup n).map λv=>(n,v))=N.zip V
 |[],_=>λZ Z=>rfl
 |_::_,[]=>λh Z=>nomatch h
 |n::ns,v::vs=>λa H=>rX filterMap_cons (rX (H (i:=0) rfl) (congrArg (_::·) (oB (bz a) λ{i x} e=>H (i:=i+1) e)))
def My{a:Nat}(h:a<=n):¬((decide (a>n)&&true)=true):=λq=>ak (of_decide_eq_true (aA q).1) (Nat.not_lt.2 h)
def H_{ns:List Str}{l:NV}(h:∀x∈ns,(l.lookup x).isNone=false):ns.filter (λn=>(l.lookup n).isNone)=[]:=filter_eq_nil_iff.2 λx m q=>by rw[h x m]at q;exact ft q
def H'{l:List Str}(h:l=[]):¬((!l.isEmpty)=true):=h▸bP
def Mz{ns:List Str}(h:x∈ns.take k):∃i,i<k/\ns[i]?=some x:=(List.getElem?_of_mem h).elim λi e=>⟨i,Nat.lt_of_not_le λq=>by
  rw[List.getElem?_take,bc (Nat.not_lt.2 q)]at e;exact nn e,by
  rw[List.getElem?_take]at e;split at e
  ·exact e
  ·exact nn e⟩
structure m4(names:List Str)(vals ds:List Value)(p q:Nat):Prop where
 nd:names.Nodup
 n:names.length=p+ds.length
 a:vals.length=p+q
 c:q<=ds.length
def m4.get(B:m4 names vals ds p q)(e:names[i]?=some x)(h:i<p+q):(List.lookup x (names.zip vals)).isNone=false:=rX (mA B.nd e) (rX (dv (B.a.symm▸h)) rfl)
def m4.no(B:m4 names vals ds p q)(e:names[i]?=some x)(h:p+q<=i):List.lookup x (names.zip vals)=none:=rX (mA B.nd e) (rX (List.getElem?_eq_none (B.a.symm▸h)) rfl)
def m4.drop(B:m4 names vals ds p q):ds.drop (ds.length-names.length)=ds:=rX (Nat.sub_eq_zero_of_le (B.n.symm▸a5 ..)) rfl
def m4.sub(B:m4 names vals ds p q):names.length-ds.length=p:=B.n.symm▸Nat.add_sub_cancel ..
def m4.le(B:m4 names vals ds p q):vals.length<=names.length:=rX B.a (rX B.n (bg B.c p))
def m4.len(B:m4 names vals ds p q):(vals++ds.drop q).length=names.length:=by
 refine rX c9 ?_;refine rX length_drop ?_;refine rX B.a ?_;refine rX B.n ?_;rw[bS,bE B.c]
def m4.miss(B:m4 names vals ds p q):(names.take (names.length-(ds.drop (ds.length-names.length)).length)).filter (λn=>((names.zip vals).lookup n).isNone)=[]:=rX B.drop (rX B.sub (H_ λx m=>(Mz m).elim λi z=>B.get z.2 (i7 z.1 (ar ..))))
def m4.loop(B:m4 names vals ds p q){f:Str×Value->NV->Sem (ForInStep NV)}(H:∀n d A,f (n,d) A=if(A.lookup n).isNone=true then Pure.pure (.yield (A++[(n,d)]))else Pure.pure (.yield A)):
  forIn ((names.drop (names.length-(ds.drop (ds.length-names.length)).length)).zip (ds.drop (ds.length-names.length))) (names.zip vals) f=Pure.pure (names.zip (vals++ds.drop q)):=by
 refine rX B.drop ?_;refine rX B.sub ?_;refine rX (zC H (B.nd.sublist (drop_sublist _ _)) (by refine rX length_drop ?_;refine rX B.n ?_;rw[Nat.add_sub_cancel_left]) (λ{i x} e h=>B.get (List.getElem?_drop▸e) (Nat.add_lt_add_left h p)) (λ{i x} e h=>B.no (List.getElem?_drop▸e) (bg h p))) ?_;rw[Bq,B.a,drop_drop]
def m4.fin(B:m4 names vals ds p q):(names++[]).filterMap (λn=>((names.zip (vals++ds.drop q)).lookup n).map λv=>(n,v))=names.zip (vals++ds.drop q):=by
 rw[append_nil];exact oB B.len λe=>mA B.nd e
def D4{sc:Scope}{cl:List (Str×Addr)}{kd cd:Value}
  (B:m4 (args.map (·.arg)) vals (r.getD #[]).toList p q)(h:∀{Q:_->_->Prop},Q r s->WP S A (seqItems? de) Q s)(H:Q ((args.map (·.arg)).zip (vals++(r.getD #[]).toList.drop q)) s):WP S A (bindArgs ⟨n,qn,⟨[],args,none,[],Ia,none,dd⟩,b,sc,g,cl,de,kd,dc,pm,an,cd,ct,bi⟩ ⟨vals,[]⟩) Q s:=
 ae (m:=seqItems? de) (h (WP.no (My B.le) (WP.no (H' B.miss) (ae (wpAny_of_eq (B.loop (λZ Z Z=>rfl)) (ae (ao (WP.no bP (ao (Eq.subst (motive:=λl=>Q l s) B.fin.symm H))))))))))
theorem m5:∀(N:Sc) (n:Nat) (a:List (Str×Addr)),(cellsFrom n N a).map Prod.fst=((N.filter λp=>p.2==NameKind.cell).map Prod.fst).reverse++a.map Prod.fst
 |[]=>λZ Z=>rfl
 |(y,k)::r=>λn a=>by
  unfold cellsFrom;refine rX filter_cons ?_;cases h:k==NameKind.cell with
  |true=>
   refine rX (aO rfl) ?_;refine rX (aO rfl) ?_;rw[m5 r,map_cons,map_cons,reverse_cons,append_assoc];rfl
  |false=>
   exact rX (bc bP) (rX (bc bP) (m5 r n a))
def sJ(h:(names.map Prod.fst).Nodup):((cellsFrom n names []).map Prod.fst).Nodup:=by
 rw[m5];exact(append_nil _).symm▸(reverse_perm _).nodup_iff.2 (h.sublist (filter_sublist.map _))
def v9(h:(x,NameKind.cell)∈names):∃c,(x,c)∈cellsFrom n names []:=by
 have m:x∈(cellsFrom n names []).map Prod.fst:=by
  rw[m5];exact rL (.inl (mem_reverse.2 (mem_map.2 ⟨_,mem_filter.2 ⟨h,rfl⟩,rfl⟩)))
 exact(i4 m).elim λp z=>⟨p.2,z.2▸z.1⟩
theorem x9{kd:Str->Option NameKind}:∀{ns:List Str}{vs:List Value}{m:Str->Option Value}{x:Str},x∉ns->bindL kd (ns.zip vs) m x=m x
 |[],_=>λZ=>rfl
 |_::_,[]=>λZ=>rfl
 |n::ns,v::vs=>λh=>(x9 λq=>h (fg q)).trans (by
  split
  ·exact bc λq=>h (mem_cons.2 (.inl q))
  ·rfl)
theorem x_{kd:Str->Option NameKind}:∀{ns:List Str}{vs:List Value}{m:Str->Option Value}{x:Str},x∉ns->bindC kd (ns.zip vs) m x=m x
 |[],_=>λZ=>rfl
 |_::_,[]=>λZ=>rfl
 |n::ns,v::vs=>λh=>(x_ λq=>h (fg q)).trans (by
  split
  ·rfl
  ·exact bc λq=>h (mem_cons.2 (.inl q)))
theorem sL{kd:Str->Option NameKind}(H:kd x=some .local):∀{ns:List Str}{vs:List Value}{m:Str->Option Value}{i:Nat},ns.Nodup->ns[i]?=some x->vs[i]?=some v->bindL kd (ns.zip vs) m x=some v
 |[],_,_,_=>λZ e Z=>nn e
 |_::_,[],_,_=>λZ Z e=>nn e
 |n::ns,_::vs,m,0=>λh e q=>by
  obtain rfl:=aj e;obtain rfl:=aj q;refine(x9 (mH h).1).trans ?_;exact rX (aO H) (aO rfl)
 |n::ns,_::vs,m,i+1=>λh e q=>sL H (ns:=ns) (mH h).2 e q
theorem ya{kd:Str->Option NameKind}(H:kd x≠some .local):∀{ns:List Str}{vs:List Value}{m:Str->Option Value}{i:Nat},ns.Nodup->ns[i]?=some x->vs[i]?=some v->bindC kd (ns.zip vs) m x=some v
 |[],_,_,_=>λZ e Z=>nn e
 |_::_,[],_,_=>λZ Z e=>nn e
 |n::ns,_::vs,m,0=>λh e q=>by
  obtain rfl:=aj e;obtain rfl:=aj q;refine(x_ (mH h).1).trans ?_;exact rX (bc H) (aO rfl)
 |n::ns,_::vs,m,i+1=>λh e q=>ya H (ns:=ns) (mH h).2 e q
inductive v_(S:aW):Value->List MV->Prop
 |no:v_ S .none []
 |mk{a o vs n eI}:S.h₀.get? a=some o->o.data= .seq vs n->(∀{W:Wd},Over S W->aC S W eI vs.toList)->v_ S (.ref a) eI
inductive YO(S:aW)(a:Addr)(names:List Str)(eI:List MV)(sc:Scope)(body:List Stmt):Prop
 |mk{o n qn de kd dc pm cd ct an Ia dd}{args:List Arg}:S.h₀.get? a=some o->o.data= .func ⟨n,qn,⟨[],args,none,[],Ia,none,dd⟩,.stmts body,sc,mainGlobals,[],de,kd,dc,pm,an,cd,ct,builtinsNs⟩->S.h₀.CodeRec cd qn->args.map (·.arg)=names->v_ S de eI->YO S a names eI sc body
structure FnAt(S:aW)(a:Addr)(aa:List Str)(p:Nat)(eI:List MV)(sc:Scope)(body:List Stmt):Prop where
 obj:YO S a (aa.take (p+eI.length)) eI sc body
 kind:sc.kind= .function
 co:sc.isCoroutine=false
 gen:sc.isGenerator=false
 nd:aa.Nodup
 le:p+eI.length<=aa.length
 names:(sc.names.map Prod.fst).Nodup
 par:∀{x},x∈aa.take (p+eI.length)->sc.names.lookup x=some .local\/sc.names.lookup x=some .cell
 free:∀x,(x,NameKind.free)∉sc.names
 lim:S.h₀.NoLimit
abbrev p5(S:aW)(W:Wd)(a:Loc)(vs:List Value):Prop:=a.length=vs.length/\∀{i:Nat}{m:MV},a[i]?=some (some m)->Got (aF S W m) vs[i]?
abbrev Ent(S:aW)(W:Wd)(J:MH)(V:List Str)(vs:List Value)(af:Loc)(sc:Scope)(s:Shared)(ab:Env)(a:Shared):Prop:=ab.scope=sc/\(∀{b},b∈cP ab->s.heap.get? b=none)/\dt [] W s W a/\Pre S V ab W af J a/\∃m,a.heap.Ns ab.locals m/\∀{x v},V[0]?=some x->vs[0]?=some v->ab.kindOf x=some .local->m x=some v
noncomputable def MA(N:Nat)(n q:Nat)(eI:List MV)(m:Loc):Loc:=m++(eI.drop q).map some++List.replicate (N-n) none
set_option backward.match.sparseCases true in
noncomputable def YP(f:Flow):Value:=match f with| .ret v=>v|_=>.none
section
variable{ml:List MV}
def aC.u(h:aC S W ml vs):p5 S W (ml.map some) vs:=⟨cX.trans h.length,λ{i m} e=>by
 rw[hW]at e;cases q:ml[i]? with
 |none=>rw[q]at e;exact nn e
 |some x=>
  rw[q]at e;obtain rfl:=aj (aj (e));exact h.get q⟩
def p5.D5(h:p5 S W ms vs):p5 S W (none::ms) (v::vs):=⟨congrArg (·+1) h.1,λ{i m}=>i.casesOn (λe=>nn (aj e)) λZ e=>h.2 e⟩
def p5.app(h:p5 S W ms vs)(H:p5 S W YQ y4):p5 S W (ms++YQ) (vs++y4):=⟨by exact rX c9 (rX c9 (rX h.1 (rX H.1 rfl))),λ{i m} e=>by
 by_cases q:i<ms.length
 ·rw[List.getElem?_append_left q]at e;exact rX (List.getElem?_append_left (h.1▸q)) (h.2 e)
 ·rw[List.getElem?_append_right (Nat.le_of_not_lt q)]at e;exact rX (List.getElem?_append_right (h.1▸Nat.le_of_not_lt q)) (rX (h.1).symm (H.2 e))⟩
def QZ(R:Rel S W J s.heap)(h:v_ S de eI):∃r:Option (Array Value),aC S W eI (r.getD #[]).toList/\∀{A}{Q:_->_->Prop},Q r s->WP S A (seqItems? de) Q s:=
 h.casesOn
 ⟨none,rfl,λq=>ae (ao (ao q))⟩
 λ{a o vs n eI} H b c=>⟨some vs,c λe=>R.base e,λq=>by
  refine ae (wpAny_load (R.fz (R.base H)) ?_);exact rX b (ao q)⟩
abbrev Full(S:aW)(W:Wd)(v:List Str)(n:Nat)(m:Loc)(vs:List Value):Prop:=v.Nodup/\m.length=n/\p5 S W m vs
def Full.par(f:Full S W aa a ms vs){i:Nat}(E:aa[i]?=some x)(e:(ms++List.replicate k none)[i]?=some (some mv)):(aa.take a)[i]?=some x/\Got (aF S W mv) vs[i]?:=by
 by_cases h:i<ms.length
 ·rw[List.getElem?_append_left h]at e;exact rX List.getElem?_take (rX (aO (f.2.1▸h)) (⟨E,f.2.2.2 e⟩))
 ·rw[List.getElem?_append_right (Nat.le_of_not_lt h),List.getElem?_replicate]at e;split at e
  ·exact nn (aj e)
  ·exact nn e
def Full.YR(f:Full S W aa a ms vs):(aa.take a).Nodup:=f.1.sublist (take_sublist _ _)
def Gh(g:Got P o)(k:∀{v},o=some v->o'=some v):Got P o':=Got.casesOn (motive:=λx Z=>o=x->Got P o') g (λp e=>(k e).symm▸.mk p) rfl
def YT(f:Full S W aa a ms vs)(R:Rel S W J s.heap)(ic:InCallC s ab.locals (bindL ab.kindOf ((aa.take a).zip vs) λZ=>none) ab.cells (bindC ab.kindOf ((aa.take a).zip vs) λZ=>none) mB)
  (pG:(ab.cells.map Prod.fst).Nodup)(fresh:∀{b},b∈cP ab->s.heap.get? b=none)(H:∀{x},Ot ab x->∃c,ab.cells.lookup x=some c):
  dK S aa ab W (ms++List.replicate k none) mB.heap:=
 ⟨⟨_,ic.toInCall.ns,⟨λ{i x mv} E d g=>have z:=f.par E g;Gh z.2 λe=>sL d f.YR z.1 e⟩⟩,
  λ{x c} j=>⟨_,ic.cell x c (hC pG j),⟨λ{i mv} E d _ g=>have z:=f.par E g;Gh z.2 λe=>ya (λq=>d.elim (λw=>nomatch ag w q) λw=>nomatch ag w q) f.YR z.1 e⟩⟩,
  H,ic.apart,λ{b} h=>⟨(hH h).elim (λe=>(ns_obj ic.toInCall.ns).elim λZ w=>e▸cD w) λh=>(i4 h).elim λy z=>(ic.cell y.1 y.2 (hC pG z.1)).elim λZ w=>z.2▸cD w.1,R.ue (fresh h),R.qp (fresh h)⟩,f.1⟩
end
abbrev S5(ab:Env)(sc:Scope)(n:Nat):Prop:=ab.scope=sc/\ab.cells=cellsFrom (n+1) sc.names []/\ab.globals=mainGlobals/\ab.builtins=builtinsNs
abbrev PkS(S:aW)(A:Around)(b:List Stmt)(r:Result->Shared->Prop)(P:Env->Shared->Prop):Prop:=∀{ab mB},P ab mB->WP S (A.deeper ab) (execs b ab) (λf s=>r (.ok (.ret (YP f))) s) mB
section
variable{sc:Scope}
def aaU{g b n:Nat}{cl:List (Str×Addr)}{Q:Str}{f:Option Addr}{c:Value}(h:ab=newEnv sc n mainGlobals (cellsFrom (n+1) sc.names []) Q f c none builtinsNs):S5 ab sc n:=by
 subst h;exact⟨rfl,rfl,rfl,rfl⟩
def Full.ent(f:FnAt S a aa p eI sc body)(u:Full S W aa (p+eI.length) YQ y4)(R:Rel S W J s.heap)(e:S5 ab sc s.heap.objs.size)(ic:InCallC s ab.locals (bindL ab.kindOf ((aa.take (p+eI.length)).zip y4) λZ=>none) ab.cells (bindC ab.kindOf ((aa.take (p+eI.length)).zip y4) λZ=>none) mB)(H:∀{v},vs[0]?=some v->y4[0]?=some v/\0<p+eI.length):
  Ent S W J aa vs (YQ++List.replicate k none) sc s ab mB:=
 have keep{b o}(e:s.heap.get? b=some o):mB.heap.get? b=some o:=ic.toInCall.keep b o e;have kd{x}:ab.kindOf x=sc.names.lookup x:=congrArg (λz:Scope=>z.names.lookup x) e.1;have fresh{b}(m:b∈cP ab):s.heap.get? b=none:=fJ ((hH m).elim (λq=>q▸ic.toInCall.fresh) λm=>(i4 m).elim λy z=>bt ic.toInCall.fresh (a_ (z.2▸ic.above y.1 y.2 z.1)))
 ⟨e.1,fresh,⟨pe (λe Z=>keep e) (iI keep),(ic.toInCall.same.elim λZ z=>z.elim λZ z=>z▸⟨rfl,rfl,rfl⟩)⟩,⟨⟨e.1▸f.kind,e.2.2.1,e.2.2.2⟩,YT u R ic (e.2.1▸sJ f.names) fresh (λh=>h.elim (λh=>(v9 (mem_of_lookup (ag kd h))).elim λc z=>⟨c,hC (e.2.1▸sJ f.names) (e.2.1▸z)⟩) λh=>ak (mem_of_lookup (ag kd h)) (f.free _)),R.keeps keep⟩,
  ⟨_,ic.toInCall.ns,λE d g=>have z:=H d;sL g u.YR (rX List.getElem?_take (rX (aO z.2) E)) z.1⟩⟩
set_option backward.match.sparseCases true in
def D6{Q:Str}{j:Option Addr}{C:Value}{i:Loc}{V:List Value}(f:FnAt S a aa p eI sc body)(H:names=aa.take (p+eI.length))(u:Full S W aa (p+eI.length) i V)(R:Rel S W J s.heap)(l:∀{v},vs[0]?=some v->V[0]?=some v/\0<p+eI.length){k:Nat}
  (h:PkS S A body Rr λab d=>Ent S W J aa vs (i++List.replicate k none) sc s ab d):
  WP S A.in1 (newFunctionEnv sc mainGlobals [] (names.zip V) Q j C none builtinsNs) (λab d=>d.heap.NoLimit/\codeAny (model pw S.w) A (.func body ab) Rr d) s:=
 wpAny_newFunctionEnv_cells f.kind (λx m=>(f.par (x:=x.1) (H▸(of_mem_zip (a:=x.1) (b:=x.2) m).1)).imp id λe=>⟨e,(v9 (n:=s.heap.objs.size+1) (mem_of_lookup e)).elim λc z=>(hC (sJ f.names) z)▸rfl⟩) λab o d ic=>
  ⟨f.lim.keeps λZ Z e=>ic.toInCall.keep _ _ (R.fz (R.base e)),codeAny_func (wpAny_mono (h (u.ent f R (aaU (g:=0) (b:=0) (cl:=[]) o) (H▸ic) l)) (λZ Z q=>q) j8)⟩
def Br(f:FnAt S a aa p eI sc body)(H:A.depth<recursionLimit)(R:Rel S W J s.heap)(j:p5 S W ms vs)(m:ms.length=p+q)(t:q<=eI.length)
  (h:PkS S A body Rr λab g=>Ent S W J aa vs (MA aa.length (p+eI.length) q eI ms) sc s ab g):codeAny (model pw S.w) A (.call (.ref a) ⟨vs,[]⟩) Rr s:=
 f.obj.casesOn λ{o n D E kd G P cd L N x T d} y B k l i=>(QZ R i).elim λr z=>
 have dl:=z.1.length;have nl:(d.map (·.arg)).length=p+(r.getD #[]).toList.length:=by exact rX l (rX length_take (rX dl (rX (Nat.min_eq_left (dl▸f.le)) rfl)))
 have c:Full S W aa (p+eI.length) (ms++(eI.drop q).map some) (vs++(r.getD #[]).toList.drop q):=⟨f.nd,by refine rX c9 ?_;refine rX cX ?_;refine rX length_drop ?_;refine rX m ?_;rw[bS,bE t],j.app (z.1.drop q).u⟩
 codeAny_call_function H (R.fz (R.base y)) B f.co f.gen rfl (k.keeps λZ Z e=>R.fz (R.base e)) (wpAny_mono (D4 (Q:=λb C=>b=(d.map (·.arg)).zip (vs++(r.getD #[]).toList.drop q)/\C=s) ⟨l▸f.nd.sublist (take_sublist _ _),nl,ag j.1 m,dl▸t⟩ z.2 ⟨rfl,rfl⟩)
  (λZ Z e=>by
   obtain rfl:=e.1;cases e.2;exact wpAny_mono (D6 f l c R (λ{v} e=>⟨(List.getElem?_append_left (cu e)).trans e,rX (c.2.1).symm (i7 (j.1▸(cu e)) (c9▸ar ..))⟩) h) (λZ Z q=>q) j8) j8)
end
section
variable{sc:Scope}{ml:List MV}
def f3.room(h:f3 A d):A.depth<recursionLimit:=iC (bt (ar _ _) (ar _ _)) h.depth
def f3.deeper(h:f3 A (d+1)):f3 (A.deeper ab) d:=
 have H:=h.units
 ⟨h.handled,bX 0x70142116083500127014268311500011 rfl h.depth,bX 0x70c8203c2605001270c82631500011 rfl (show A.units+(60*d+60)+200<cLine from h.units)⟩
abbrev aaV(f:Fn)(p q:Nat)(a af:Loc):Prop:=a.length=p+q/\q<=f.gk.length/\af=MA f.aa f.params q f.gk a
def Bs(H:fn.params=p+fn.gk.length)(h:frame fn args=some af):∃q,aaV fn p q args af:=by
 unfold frame at h;dsimp only at h;split at h
 ·rename_i c;obtain rfl:=aj h;have c:=H▸c;refine⟨args.length-p,(bE (Nat.le_of_add_le_add_right (Nat.sub_le_iff_le_add'.1 c.2))).symm,Nat.sub_le_iff_le_add'.2 c.1,?_⟩;exact rX H (rX (sb (Nat.le_of_add_le_add_right (Nat.sub_le_iff_le_add'.1 c.2)) c.1) rfl)
 ·exact nn (h)
def Ent.back(E:Ent S W J aa vs af sc s ab mB)(f:dt (cP ab) W mB W' s'):dt [] W s W' s':=.mk (dW.finish (Y:=cP ab) (E.2.2.1.wide.trans f).todW (λZ e=>e) E.2.1) (E.2.2.1.toSh.trans f.toSh)
def YU{K:QK}(E:Ent S W J aa vs af sc s ab mB)(h:∀{f af J},K f af J->eN Q f af J)(q:Lx S aa ab (cP ab) W mB K g s'):Lq S W s Q (YP g) s':=
 q.casesOn λ{W' f a bH} b P c e=>zy.casesOn c (λe=>.mk (E.back b) P.R rn e) (λe=>az e) (λr e=>.mk (E.back b) P.R r e) (h e)
def YV(X:Cx S C d)(h:f3 A (d+1))(a:FnAt S (c5 f) aa p fn.gk sc body)(c:aa.length=fn.aa)(H:fn.params=p+fn.gk.length)(R:Rel S W J s.heap)(r:aC S W ml vs)(g:frame fn (ml.map some)=some af)(e:Bc C aa sc.names body af J (eN Q)):
  WP S A (PySem.call (.ref (c5 f)) vs) (Lq S W s Q) s:=
 (Bs H g).elim λq z=>wpAny_call (Br a h.room R r.u z.1 z.2.1 λ{ab b} E=>
  (QY X h.deeper (E.1▸rfl) (by have P:=E.2.2.2.1;exact(z.2.2▸H▸c▸P)) e).mono λw=>YU E id w)
end
noncomputable def Wd.cut(W1:Wd)(k:Nat)(h:Heap)(l:List Addr):Wd:=⟨λa=>if a∈W1.ls.drop k then h.get? a else W1.fz a,l⟩
structure Cut(S:aW)(W W0 W1:Wd)(h h1:Heap)(J cx:MH)(k:Nat):Prop where
 f:∀{a},W0.fz a=W.fz a
 l:∀{a},a∈W0.ls->a∈W.ls
 st:dW [] W0 h W1 h1
 R:Rel S W J h
 R1:Rel S W1 cx h1
section
def Cut.up(c:Cut S W W0 W1 h h1 J cx k)(e:W1.fz a=some o):(W1.cut k h1 W.ls).fz a=some o:=by
 show(if a∈W1.ls.drop k then h1.get? a else W1.fz a)=some o;split
 ·exact c.R1.fz e
 ·exact e
def Cut.at(_:Cut S W W0 W1 h h1 J cx k)(H:k<=j)(e:W1.ls[j]?=some a):(W1.cut k h1 W.ls).fz a=h1.get? a:=
 aO (mem_of_getElem? (rX List.getElem?_drop (rX (bE H) e)))
def Cut.ne(c:Cut S W W0 W1 h h1 J cx k)(n:a∉W1.ls.drop k)(e:W1.fz a=none):(W1.cut k h1 W.ls).fz a=none:=(bc n).trans e
def Cut.low(c:Cut S W W0 W1 h h1 J cx k)(H:j<k)(e:W1.ls[j]?=some a):a∉W1.ls.drop k:=λm=>(AK m).elim λi q=>by
 rw[List.getElem?_drop]at q;exact ak ((List.getElem?_inj (cu e) c.R1.nd).1 (e.trans q.symm)) (cm (i7 H (ar ..)))
def Cut.sub(c:Cut S W W0 W1 h h1 J cx k):Sub W (W1.cut k h1 W.ls):=⟨λe=>c.up (c.st.sub.fz (c.f.trans e)),id⟩
def Cut.step(c:Cut S W W0 W1 h h1 J cx k):dW [] W h (W1.cut k h1 W.ls) h1:=
 ⟨c.sub,λe n m=>c.st.keep e (λq=>n (c.l q)) m,c.st.live,.inl,λ{a o} e=>by
  have e:(if a∈W1.ls.drop k then h1.get? a else W1.fz a)=some o:=e;split at e
  ·rename_i m;exact(c.st.oc (mem_of_mem_drop m)).elim (λq=>.inr (.inr (c.l q))) λq=>.inr (.inl q)
  ·exact(c.st.ra e).imp (λq=>ag c.f q) λq=>q.imp id c.l,di⟩
def Cut.rel(c:Cut S W W0 W1 h h1 J cx k)(H:bH.length=J.length)(b:∀{i:Nat}{a:Addr}{d:MC},W.ls[i]?=some a->bH[i]?=some d->hR S (W1.cut k h1 W.ls) h1 a d):Rel S (W1.cut k h1 W.ls) bH h1:=
 ⟨λ{a o} e=>by
  have e:(if a∈W1.ls.drop k then h1.get? a else W1.fz a)=some o:=e;split at e
  ·exact e
  ·exact c.R1.fz e,λe=>c.sub.fz (c.R.base e),c.R.len.trans H.symm,b,c.R.nd,c.R.sys.elim λZ e=>⟨_,c.sub.fz e⟩⟩
mutual
theorem sM(f:∀{a o},W1.fz a=some o->W3.fz a=some o):∀(m:MV) (v:Value),pure m->aF S W1 m v->aF S W3 m v
 | .none=>λZ Z r=>r
 | .bool _=>λZ Z r=>r
 | .int _=>λZ Z r=>r
 | .str _=>λZ Z r=>r
 | .fn _=>λZ Z r=>r
 | .tup l=>λZ p r=>Sq.mono f (λvs=>gv f l vs p) r
 | .aQ l=>λZ p r=>Sq.mono f (λvs=>gv f l vs p) r
 | .obj _ l=>λZ p r=>Ob.casesOn r λa b c d e=>.mk (f a) (f b) c (gv f l _ p d) e
 | .lst _=>λZ p Z=>az p
 | .iD _=>λZ p Z=>az p
 | .dZ _ l=>λZ p r=>Sd.casesOn r λa b c d e=>.mk (f a) b c d (gv f l _ p e)
theorem gv(f:∀{a o},W1.fz a=some o->W3.fz a=some o):∀(l:List MV) (vs:List Value),f9 l->aC S W1 l vs->aC S W3 l vs
 |[]=>λZ Z r=>r
 |m::l=>λZ p r=>Cs.casesOn r λa b=>.mk (sM f m _ p.1 a) (gv f l _ p.2 b)
end
mutual
theorem Bt(f:∀{a o},W1.fz a=some o->W3.fz a=some o)(g:∀{j a},j<k->W1.ls[j]?=some a->W3.ls[j]?=some a)(h:W.ls.length<=k):∀(m:MV) (u v:Value),aF S W m u->aF S W1 m v->aF S W3 m v
 | .none=>λZ Z Z r=>r
 | .bool _=>λZ Z Z r=>r
 | .int _=>λZ Z Z r=>r
 | .str _=>λZ Z Z r=>r
 | .fn _=>λZ Z Z r=>r
 | .tup l=>λZ Z p r=>Sq.casesOn p λZ p Z=>Sq.mono f (λvs=>iW f g h l _ vs p) r
 | .aQ l=>λZ Z p r=>Sq.casesOn p λZ p Z=>Sq.mono f (λvs=>iW f g h l _ vs p) r
 | .obj _ l=>λZ Z p r=>Ob.casesOn p λZ Z Z p Z=>Ob.casesOn r λa b c d e=>.mk (f a) (f b) c (iW f g h l _ _ p d) e
 | .lst _=>λZ Z p r=>Rf.casesOn p λe=>Rf.casesOn r λq=>.mk (g (i7 (cu e) h) q)
 | .iD _=>λZ Z p r=>Rf.casesOn p λe=>Rf.casesOn r λq=>.mk (g (i7 (cu e) h) q)
 | .dZ _ l=>λZ Z p r=>Sd.casesOn p λZ Z Z Z p=>Sd.casesOn r λa b c d e=>.mk (f a) b c d (iW f g h l _ _ p e)
theorem iW(f:∀{a o},W1.fz a=some o->W3.fz a=some o)(g:∀{j a},j<k->W1.ls[j]?=some a->W3.ls[j]?=some a)(h:W.ls.length<=k):∀(l:List MV) (i vs:List Value),aC S W l i->aC S W1 l vs->aC S W3 l vs
 |[]=>λZ Z Z r=>r
 |m::l=>λZ Z p r=>Cs.casesOn p λp q=>Cs.casesOn r λa b=>.mk (Bt f g h m _ _ p a) (iW f g h l _ _ q b)
end
def kZ.len(x:kZ cx k l l'):l'.length=l.length:=
 kZ.rec (motive_1:=λZ Z Z=>True) (λZ=>ai) (λZ=>ai) (λZ Z Z Z=>trivial) (λZ Z Z Z=>trivial) (λZ Z=>trivial) (λZ Z=>trivial) rfl (λZ Z Z i=>congrArg (·+1) i) x
def Old(W W1:Wd)(k:Nat):Prop:=∀{j:Nat}{a:Addr},j<k->W1.ls[j]?=some a->W.ls[j]?=some a
def Q0(e:n'=n)(x:Sq fz T P n v):Sq fz T P n' v:=e▸x
def D7(S:aW)(W W1:Wd)(h:Heap)(k:Nat)(r v:MV):Prop:=Old W W1 k\/pure v->∀{x},aF S W1 r x->aF S (W1.cut k h W.ls) v x
def Ib(S:aW)(W W1:Wd)(h:Heap)(k:Nat)(r v:List MV):Prop:=Old W W1 k\/f9 v->∀{x},aC S W1 r x->aC S (W1.cut k h W.ls) v x
def Bu(c:Cut S W W0 W1 h h1 J cx k)(p:pure v):D7 S W W1 h1 k v v:=λZ Z r=>sM c.up v _ p r
def Gi(h:j<k):D7 S W W1 h1 k (.lst j) (.lst j):=λo Z r=>o.elim (λo=>Rf.casesOn r λe=>.mk (o h e)) λp=>az p
def uK(c:Cut S W W0 W1 h h1 J cx k)(b:k<=j)(e:cx[j]?=some (.list l)\/cx[j]?=some (.jq l))(H:l'.length=l.length)(i:Ib S W W1 h1 k l l'):D7 S W W1 h1 k (.lst j) (.aQ l'):=λo Z r=>
 Rf.casesOn r λ{a} q=>have s:=c.at b q
  e.elim (λe=>hR.casesOn (motive:=λd Z=>d=.list l->Sq (W1.cut k h1 W.ls).fz "list" (aC S (W1.cut k h1 W.ls) l') l'.length (.ref a)) (c.R1.cell q e) (λZ E r C z=>by cases z;exact .mk (s.trans E) (i o r) (H▸C)) (λZ Z Z Z Z z=>nomatch z) (λZ Z Z z=>nomatch z) rfl)
  λe=>hR.casesOn (motive:=λd Z=>d=.jq l->Sq (W1.cut k h1 W.ls).fz "list" (aC S (W1.cut k h1 W.ls) l') l'.length (.ref a)) (c.R1.cell q e) (λZ Z Z Z z=>nomatch z) (λZ Z Z Z Z z=>nomatch z) (λE r C z=>by cases z;exact .mk (c.up E) (i o r) (H▸C)) rfl
def MB(c:Cut S W W0 W1 h h1 J cx k)(i:Ib S W W1 h1 k l l'):D7 S W W1 h1 k (.obj n l) (.obj n l'):=λo Z r=>Ob.casesOn r λa b d e f=>.mk (c.up a) (c.up b) d (i o e) f
def Gj(c:Cut S W W0 W1 h h1 J cx k)(H:l'.length=l.length)(i:Ib S W W1 h1 k l l'):D7 S W W1 h1 k (.tup l) (.tup l'):=λo Z r=>Q0 H (Sq.mono c.up (λZ p=>i o p) r)
def Bv(a:D7 S W W1 h1 k v V)(b:Ib S W W1 h1 k l l'):Ib S W W1 h1 k (v::l) (V::l'):=λo Z r=>Cs.casesOn r λx y=>.mk (a (o.imp id (·.1)) x) (b (o.imp id (·.2)) y)
def MD(c:Cut S W W0 W1 h h1 J cx k)(x:Fz cx k r v):D7 S W W1 h1 k r v:=
 Fz.rec (Bu c) Gi (λa b d i=>uK c a (.inl b) d.len i) (λa b d i=>uK c a (.inr b) d.len i) (λZ i=>MB c i) (λd i=>Gj c d.len i) (λZ Z r=>r) (λZ Z a b=>Bv a b) x
def ME(c:Cut S W W0 W1 h h1 J cx k)(x:kZ cx k r v):Ib S W W1 h1 k r v:=
 kZ.rec (Bu c) Gi (λa b d i=>uK c a (.inl b) d.len i) (λa b d i=>uK c a (.inr b) d.len i) (λZ i=>MB c i) (λd i=>Gj c d.len i) (λZ Z r=>r) (λZ Z a b=>Bv a b) x
end
inductive oC(S:aW)(W:Wd)(h:Heap)(a:Addr)(l:List MV):Prop
 |mk{vs n}:W.fz a=none->h.get? a=some (so "list" vs n)->aC S W l vs.toList->l.length<=cL->oC S W h a l
inductive yb(S:aW)(W:Wd)(h:Heap)(a:Addr)(l:List (Str×MV)):Prop
 |mk{o mQ}:W.fz a=none->h.get? a=some o->o.IsDictOf (strKind pw S.w) mQ->mQ.map (·.1)=l.map (·.1)->aC S W (l.map (·.2)) (mQ.map (·.2))->yb S W h a l
inductive yc(S:aW)(W:Wd)(a:Addr)(l:List MV):Prop
 |mk{vs n}:W.fz a=some (so "list" vs n)->aC S W l vs.toList->l.length<=cL->yc S W a l
def rt(S:aW)(W:Wd)(h:Heap)(a:Addr)(c:MC):Prop:=match c with
 | .list l=>oC S W h a l
 | .dict l=>yb S W h a l
 | .jq l=>yc S W a l
inductive S6(cx:MH)(n:Nat)(o o1:Option MC)(c':MC):Prop
 |mk{c c1}:o=some c->o1=some c1->Cm cx n c c1 c'->S6 cx n o o1 c'
def hR.i(r:hR S W h a c):rt S W h a c:=r.casesOn .mk .mk .mk
def rt.out(r:rt S W h a c):hR S W h a c:=c.casesOn (λZ r=>oC.casesOn r .list) (λZ r=>yb.casesOn r .dict) (λZ r=>yc.casesOn r .jq) r
def Old.of(f:Sub W W1):Old W W1 W.ls.length:=λ{j b} h e=>rX (dv h) (ag (f.ls (dv h)) e)
def MF(c:Cut S W W0 W1 h h1 J cx k)(o:Old W W1 k)(H:W.ls.length<=k)(t:∀{vs},aC S W1 l vs->aC S (W1.cut k h1 W.ls) l' vs):∀(p:List MV) (u vs:List Value),aC S W p u->aC S W1 (p++l) vs->aC S (W1.cut k h1 W.ls) (p++l') vs:=by
 intro d;induction d with
 |nil=>exact λZ Z Z r=>t r
 |cons m p i=>exact λZ Z q r=>Cs.casesOn q λx y=>Cs.casesOn r λa b=>.mk (Bt c.up o H m _ _ x a) (i _ _ y b)
def Q1(c:Cut S W W0 W1 h h1 J cx k)(o:Old W W1 k)(H:W.ls.length<=k)(n:a∉W1.ls.drop k):∀d,rt S W h a d->rt S W1 h1 a d->rt S (W1.cut k h1 W.ls) h1 a d:=by
 intro m;induction m with
 |list l=>exact λr b=>oC.casesOn r λZ Z p Z=>oC.casesOn b λx y z w=>.mk (c.ne n x) y (iW c.up o H l _ _ p z) w
 |dict l=>exact λr b=>yb.casesOn r λZ Z Z Z p=>yb.casesOn b λx y z w u=>.mk (c.ne n x) y z w (iW c.up o H _ _ _ p u)
 |jq l=>exact λr b=>yc.casesOn r λZ p Z=>yc.casesOn b λx z w=>.mk (c.up x) (iW c.up o H l _ _ p z) w
def YW{c1:MC}(c:Cut S W W0 W1 h h1 J cx k)(o:Old W W1 k)(H:W.ls.length<=k)(n:a∉W1.ls.drop k)(x:Cm cx k c0 c1 c'):rt S W h a c0->rt S W1 h1 a c1->rt S (W1.cut k h1 W.ls) h1 a c':=
 x.casesOn (λ{d}=>Q1 c o H n d)
 (λ{p l l'} x r g=>oC.casesOn r λZ Z q Z=>oC.casesOn g λa b d e=>.mk (c.ne n a) b (MF c o H (λr=>ME c x (.inl o) r) p _ _ q d) (by rw[c9]at e;exact rX c9 (rX x.len e)))
 (λ{_ l l'} x _ g=>oC.casesOn g λa b d e=>.mk (c.ne n a) b (ME c x (.inl o) d) (x.len.symm▸e))
 (λ{_ l} p _ g=>yb.casesOn g λa b d e f=>.mk (c.ne n a) b d e (gv c.up _ _ p f))
theorem zD:∀{a c b:MH},EU cx n a c b->b.length=a.length/\∀{i:Nat}{d:MC},b[i]?=some d->S6 cx n a[i]? c[i]? d
 |[],_,_=>λe=>⟨congrArg List.length e,λ{i _} q=>nn (ag (congrArg (λm:MH=>m[i]?) e) q)⟩
 |_::_,[],_=>λe=>az e
 |_::_,_::_,[]=>λe=>az e
 |_::_,_::_,_::_=>λe=>have z:=zD e.2;⟨congrArg (·+1) z.1,λ{i _} q=>match i,q with
  |0,q=>.mk rfl rfl (aj q▸e.1)
  |_+1,q=>z.2 q⟩
def YX(R:Rel S W J s.heap)(q:Lq S W s (fin J Q) v s'):Lq S W s Q v s':=
 q.casesOn λ{W1 cx m} f b r e=>e.elim (λe=>.mk f b r e) λz=>z.elim λV z=>z.elim λbH z=>
 have c:=⟨rfl,id,f.todW,R,b⟩;have o:Old W W1 J.length:=R.len▸Old.of f.sub
 .mk ⟨c.step,f.toSh⟩ (c.rel (zD z.2.1).1 λ{i a d} E g=>((zD z.2.1).2 g).casesOn λq q1 x=>(YW c o (bx R.len) (c.low (R.len▸(cu E)) (f.sub.ls E)) x (R.cell E q).i (b.cell (f.sub.ls E) q1).i).out) (MD c z.1 (.inl o) r) z.2.2
def Cut.old(c:Cut S W W0 W1 h h1 J cx k){i:Nat}(m:a∉W0.ls)(E:W.ls[i]?=some a)(b:J[i]?=some d):hR S (W1.cut k h1 W.ls) h1 a d:=
 have l:=c.R.live (get_mem E)
 (c.R.cell E b).mono c.sub (λz=>c.ne (λq=>(c.st.oc (mem_of_mem_drop q)).elim m λe=>l.elim λZ q=>fj e q) (De λo q=>(c.st.ra q).elim (λq=>fj z (ag c.f q)) λq=>q.elim (λe=>l.elim λZ q=>fj e q) m)) λq=>c.st.keep q m d6
def YY(R:Rel S W J s.heap)(q:Lq S ⟨W.fz,[]⟩ s (rN J Q) v s'):Lq S W s Q v s':=
 q.casesOn λ{W1 cx m} f a r e=>e.elim λV z=>
 have c:Cut S W ⟨W.fz,[]⟩ W1 s.heap s'.heap J cx 0:=⟨rfl,λm=>ak m d6,f.todW,R,a⟩
 .mk ⟨c.step,f.toSh⟩ (c.rel rfl λE b=>c.old d6 E b) (MD c z.1 (.inl λh=>ak h (Nat.not_lt_zero _)) r) z.2
def Q2(h:W.ls[i]?=some a)(R:Rel S W J s.heap)(q:Lq S ⟨W.fz,[a]⟩ s (u6 J i Q) v s'):Lq S W s Q v s':=
 q.casesOn λ{W1 cx m} f k r e=>e.elim λV z=>z.elim λC z=>
 have c:Cut S W ⟨W.fz,[a]⟩ W1 s.heap s'.heap J cx 1:=⟨rfl,λm=>d5 m▸get_mem h,f.todW,R,k⟩;have H:=f.sub.ls rfl
 .mk ⟨c.step,f.toSh⟩ (c.rel length_set λ{j b d} g E=>by
  by_cases q:i=j
  ·subst q;obtain rfl:=aj (ag h g);rw[List.getElem?_set_self (R.len▸(cu h))]at E;obtain rfl:=aj E;exact oC.casesOn (k.cell H z.2.2.1).i λx y u w=>.list (c.ne (c.low Nat.one_pos H) x) y (gv c.up _ _ z.2.2.2.1 u) w
  ·rw[List.getElem?_set_ne q]at E;exact c.old (λm=>q ((List.getElem?_inj (cu h) R.nd).1 (h.trans (d5 m▸g.symm)))) g E) (MD c z.1 (.inr z.2.1) r) z.2.2.2.2
def MG(R:Rel S W J h):Rel S ⟨W.fz,[]⟩ [] h:=⟨R.fz,R.base,rfl,λe=>nn e,nodup_nil,R.sys⟩
def MI{i:Nat}(R:Rel S W J h)(H:W.ls[i]?=some a)(e:J[i]?=some (.list l))(p:f9 l):Rel S ⟨W.fz,[a]⟩ [.list l] h:=
 ⟨R.fz,R.base,rfl,λ{j _ _} q Q=>match j,q,Q with
  |0,q,Q=>aj q▸aj Q▸oC.casesOn (R.cell H e).i λx y u w=>.list x y (gv (W1:=W) (W3:=⟨W.fz,[a]⟩) id _ _ p u) w
  |_+1,q,_=>nn q,nodup_cons.2 ⟨d6,nodup_nil⟩,R.sys⟩
def D8(p:pure m):xj i m=m:=by cases m<;>first|rfl|exact az p
def Ic(h:W.ls[i]?=some a)(p:u7 m)(r:aF S W (xj i m) v):aF S ⟨W.fz,[a]⟩ m v:=
 p.elim (λe=>by
  subst e;exact Rf.casesOn r λq=>aj (ag h q)▸.mk rfl) λp=>sM (W1:=W) (W3:=⟨W.fz,[a]⟩) id m v p (D8 p▸r)
def D9(h:W.ls[i]?=some a):∀{b:List MV}{vs:List Value},(∀v∈b,u7 v)->aC S W (b.map (xj i)) vs->aC S ⟨W.fz,[a]⟩ b vs:=by
 intro c;induction c with
 |nil=>exact λZ r=>r
 |cons _ _ d=>exact λp r=>Cs.casesOn r λx y=>.mk (Ic h (p _ eE) x) (d (λv m=>p v (fg m)) y)
noncomputable def wb(c:Option MC):Option (List MV):=match c with
 |some (.list l)=>some l
 |some (.jq l)=>some l
 |_=>none
noncomputable def aaW(v:MV)(o:Option (List MV)):MV:=match o with|some l=>.aQ l|none=>v
inductive Bw(S:aW)(W:Wd)(h:Heap)(J:MH)(P:Wd->Prop):Prop
 |mk{W'}:dW [] W h W' h->Rel S W' J h->P W'->Bw S W h J P
section
variable{J:MH}{i:Nat}
def D_:nD J (.lst i)=aaW (.lst i) (wb J[i]?):=by
 show(match J[i]? with|some (.list l)=>MV.aQ l|some (.jq l)=>.aQ l|_=>.lst i)=_;cases J[i]? with
 |none=>rfl
 |some c=>cases c<;>rfl
def MJ(e:∀i:Nat,wb J[i]?=wb cx[i]?):nD J m=nD cx m:=by
 cases m with
 |lst i=>refine rX D_ ?_;refine rX D_ ?_;rw[e]
 |_=>rfl
def Q3(e:J[i]?=some (.list l)):nk J (.lst i)=J.set i (.jq l):=by
 show(match J[i]? with|some (.list l)=>J.set i (.jq l)|_=>J)=_;exact rX e rfl
def zE(e:∀l,J[i]?≠some (.list l)):nk J (.lst i)=J:=by
 show(match J[i]? with|some (.list l)=>J.set i (.jq l)|_=>J)=_;cases q:J[i]? with
 |none=>rfl
 |some c=>
  cases c with
  |list l=>exact ak q (e l)
  |_=>rfl
def MK(e:J[i]?=some (.list l))(j:Nat):wb (J.set i (.jq l))[j]?=wb J[j]?:=by
 by_cases q:i=j
 ·subst q;refine rX (List.getElem?_set_self (cu e)) (rX e ?_);rfl
 ·exact rX (List.getElem?_set_ne q) rfl
def ML(R:Rel S W J h)(H:W.ls[i]?=some a)(e:J[i]?=some (.list l)):Bw S W h (J.set i (.jq l)) λW'=>aF S W' (.aQ l) (.ref a):=
 oC.casesOn (R.cell H e).i λ{vs n} g k r f=>
 have sub:=gB g
 .mk ⟨sub,λe Z Z=>e,id,.inl,λe=>lk e (λq Z=>.inr (.inr (q▸get_mem H))) .inl,di⟩
  ⟨λe=>lk e (λq z=>q▸z▸k) R.fz,λe=>sub.fz (R.base e),R.len.trans length_set.symm,λ{j b d} c E=>by
   by_cases q:i=j
   ·subst q;obtain rfl:=aj (ag H c);rw[List.getElem?_set_self (cu e)]at E;obtain rfl:=aj E;exact .jq jI (r.mono sub) f
   ·rw[List.getElem?_set_ne q]at E;exact(R.cell c E).mono sub (λz=>(rf (λw=>q ((List.getElem?_inj (cu H) R.nd).1 (H.trans (ag (congrArg some w) c.symm))))).trans z) id,R.nd,R.sys.elim λZ e=>⟨_,sub.fz e⟩⟩
  (Sq.mk jI (r.mono sub) f)
def YZ(R:Rel S W J h)(H:W.ls[i]?=some a)(e:J[i]?=some (.jq l)):aF S W (.aQ l) (.ref a):=yc.casesOn (R.cell H e).i λx y z=>Sq.mk x y z
def Q4(R:Rel S W J h)(r:aF S W (.lst i) v):Bw S W h (nk J (.lst i)) (λW'=>aF S W' (nD J (.lst i)) v)/\∀j:Nat,wb (nk J (.lst i))[j]?=wb J[j]?:=
 Rf.casesOn r λ{a} H=>by
  refine rX D_ ?_;cases e:J[i]? with
  |none=>
   exact rX (zE (λl q=>nn (ag e q))) (⟨.mk (.refl ..) R (Rf.mk H),λZ=>rfl⟩)
  |some c=>
   cases c with
   |list l=>
    exact rX (Q3 e) (⟨ML R H e,MK e⟩)
   |jq l=>
    exact rX (zE (λl q=>nomatch ag e q)) (⟨.mk (.refl ..) R (YZ R H e),λZ=>rfl⟩)
   |dict l=>
    exact rX (zE (λl q=>nomatch ag e q)) (⟨.mk (.refl ..) R (Rf.mk H),λZ=>rfl⟩)
def Q5(R:Rel S W J h):∀{m:MV}{v:Value},aF S W m v->Bw S W h (nk J m) (λW'=>aF S W' (nD J m) v)/\∀j:Nat,wb (nk J m)[j]?=wb J[j]?:=λ{m v} r=>by
 cases m with
 |lst i=>exact Q4 R r
 |_=>exact⟨.mk (.refl ..) R r,λZ=>rfl⟩
theorem Bx:∀{a:List MV}{vs:List Value}{W:Wd}{J:MH},(∀i:Nat,wb Pk[i]?=wb J[i]?)->Rel S W J h->aC S W a vs->Bw S W h (a.foldl nk J) λW'=>aC S W' (a.map (nD Pk)) vs
 |[]=>λZ R r=>.mk (.refl ..) R r
 |m::a=>λe R r=>Cs.casesOn r λx y=>have z:=Q5 R x
  z.1.casesOn λ{W1} st b x=>(Bx (λi=>(e i).trans (z.2 i).symm) b (y.mono st.sub a _)).casesOn λC3 c y=>.mk (st.trans C3) c (.mk (MJ e▸aF.mono C3.sub _ _ x) y)
def Y0(st:dW [] W s.heap W1 s.heap):dt [] W s W1 s:=.mk st (Sh.refl s)
def Y1(G:xf S)(H:F5 S)(K:LZ S C d):Cx S C d:=
 ⟨G,H,λ{A f m vs W J s Q} h R r e=>(show C f m J Q\/C f (m.map (nD J)) (m.foldl nk J) Q by with_unfolding_all exact e).elim (K.1 h R r) λe=>(Bx (λZ=>rfl) R r).casesOn λst a r=>WP.pre (Y0 st) (K.1 h a r e),
  λ{f m J Q} e=>(show C f m J Q\/C f (m.map (nD J)) (m.foldl nk J) Q by with_unfolding_all exact e).elim K.2 K.2⟩
def Q6(T:∀{ms vs W J s Q},Rel S W J s.heap->aC S W ms vs->gy C fn ms J Q->WP S A (PySem.call f vs) (Lq S W s Q) s)(R:Rel S W J s.heap)(r:aC S W ms vs)(e:nG C fn ms J Q):WP S A (PySem.call f vs) (Lq S W s Q) s:=
 (show gy C fn ms J (fin J Q)\/(f9 ms/\gy C fn ms [] (rN J Q))\/∃i c iE,J[i]?=some (.list c)/\f9 c/\ms=iE.map (xj i)/\(∀v∈iE,u7 v)/\gy C fn iE [.list c] (u6 J i Q) by with_unfolding_all exact e).elim
 (λe=>(T R r e).mono (YX R)) λe=>e.elim (λe=>(T (MG R) (gv (W1:=W) (W3:=⟨W.fz,[]⟩) id ms vs e.1 r) e.2).mono (YY R)) λz=>z.elim λi z=>z.elim λc z=>z.elim λiE z=>
 have h:=dv (R.len.symm▸(cu z.1))
 (T (MI R h z.1 z.2.1) (D9 h z.2.2.2.1 (z.2.2.1▸r)) z.2.2.2.2).mono (Q2 h R)
end
inductive dX:List DictEntry->List Str->List Value->Prop
 |nil:dX [] [] []
 |cons{h n t v es ns vs}:dX es ns vs->dX (⟨h,.str n t,v⟩::es) (n::ns) (v::vs)
inductive xh(h:Heap)(a:Addr)(fs:List Str)(vs:List Value):Prop
 |mk{es ep dd sl}:h.get? a=some ⟨.type "dict",dd,.dict es ep,sl⟩->dX es.toList fs vs->xh h a fs vs
section
variable{es:List DictEntry}
def dX.snoc{h:Int}{n:Str}{t:Tok}{v:Value}(r:dX es fs vs):dX (es++[⟨h,.str n t,v⟩]) (fs++[n]) (vs++[v]):=
 dX.rec (.cons .nil) (λZ i=>.cons i) r
def dX.len(r:dX es fs vs):es.length=fs.length:=dX.rec rfl (λZ i=>congrArg (·+1) i) r
def dX.S7(r:dX es fs vs):es.any (·.refKey)=false:=dX.rec rfl (λZ i=>i) r
def yd{x:Str}(h:x≠n):(Value.str n t).isStr x=false:=beq_eq_false_iff_ne.2 (λq=>h q.symm)
def dX.idx(r:dX es fs vs):name∉fs->es.findIdx? (·.key.isStr name)=none:=
 dX.rec (λZ=>rfl) (λ{_ n _ _ _ ns _} _ i h=>by
  refine rX List.findIdx?_cons (rX (yd (λq=>h (mem_cons.2 (.inl q)))) (rX (i (λq=>h (fg q))) ?_));rfl) r
def dX.find(r:dX es fs vs):(es.find? (·.key.isStr name)).map (·.val)=(fs.zip vs).lookup name:=
 dX.rec rfl (λ{_ n t v es ns vs} _ i=>by
  refine rX zip_cons_cons (rX lookup_cons (rX List.find?_cons ?_));by_cases h:name=n
  ·subst h;rw[beq_self_eq_true];refine rX (show(Value.str name t).isStr name=true from beq_self_eq_true _) ?_;rfl
  ·exact rX (yd h) (rX (uJ h) i)) r
def dX.Q7{es:Array DictEntry}{ep:Nat}(r:dX es.toList fs vs):uE ⟨.type "dict",dd,.dict es ep,sl⟩ fs vs:=
 ⟨rfl,λx=>by
  unfold lookIn;dsimp only;have h:=r.find (name:=x);cases e:es.toList.find? (·.key.isStr x)with
  |some E=>rw[e]at h;exact congrArg some h
  |none=>
   rw[e]at h;exact rX r.S7 (congrArg some h)⟩
def ru{es:Array DictEntry}{ep:Nat}{d:Option Addr}{s:Array (Option Value)}{c:Value}{h:Int}{k:Value}(r:dX es.toList fs vs)(H:name∉fs):Obj.putName name h k v ⟨c,d,.dict es ep,s⟩=⟨c,d,.dict (es.push ⟨h,k,v⟩) (ep+1),s⟩:=by
 refine rX Obj.putName_eq ?_;unfold Obj.putNameByArray;dsimp only
 have e:es.findIdx? (·.key.isStr name)=none:=by
  cases es with
  |mk l=>rw[List.findIdx?_toArray];exact r.idx H
 exact rX e rfl
def MM(a:xh s.heap dx fs vs)(H:name∉fs)(q:∀{h' tk},Heap.SameBut dx s.heap h'->xh h' dx (fs++[name]) (vs++[v])->Q () {s with heap:=h',toks:=tk}):WP S A (nsSet dx name v) Q s:=
 a.casesOn λ{es ep d b} h r=>by
 refine ae (ae (wpAny_askSetting (ao (ae (wpAny_mkText (ae (wpAny_loadPart h ?_)))))));dsimp only;refine rX aRefKeyMayBeTheName_eq ?_;unfold aRefKeyMayBeTheNameByArray;refine rX (ag Array.any_toList r.S7) ?_;rw[Bool.and_false];refine rX (bc bP) ?_;exact wpAny_updatePart h (q (Heap.SameBut.update ..) (.mk ((Heap.get?_update_self _ h (by exact rX (ru r H) rfl)).trans (congrArg some (ru r H))) (Array.toList_push.symm▸r.snoc)))
end
structure yf(S:aW)(Ca fI:Addr)(MN:List Str):Prop where
 makes:makesIn S.K Ca=true
 init:findIn S.K (.ref Ca) "__init__" =some (some (.ref fI))
 fn:typeIn S.K (.ref fI)=some (.type "function")
 set:findIn S.K (.ref Ca) "__setattr__" =some (some (.builtin "object.__setattr__"))
 over:plainOver S.K Ca=true
 has:(clsIn S.K Ca).any (·.hasDict)=true
 no:∀{f},f∈MN->findIn S.K (.ref Ca) f=some none
 nd:MN.Nodup
 few:MN.length<=900
abbrev By(S:aW)(W:Wd)(s:Shared)(Ca x d:Addr)(f:List Str)(m:List MV)(vs:List Value):Prop:=Apart [x,d] W s.heap/\s.heap.get? x=some (instObj Ca d)/\xh s.heap d f vs/\aC S W m vs/\f.length=vs.length
def uL(ab:Env)(s:Str)(x:Addr)(h:Heap):Prop:=∃m,h.Ns ab.locals m/\m s=some (.ref x)
abbrev MO(S:aW)(Ca f x d:Addr)(A:List Str)(s:Str)(ab:Env):Prop:=yf S Ca f A/\x≠d/\(∀{a},a∈cP ab->a∉[x,d])/\ab.kindOf s=some .local/\(s==("__debug__" :Str))=false
inductive Gk(S:aW)(aa:List Str)(ab:Env)(af:Loc)(Ca x dx:Addr)(self:Str)(fs:List Str)(ms:List MV)(vs:List Value)(W:Wd)(s:Shared)(Q:MV->MH->Prop):Flow->Shared->Prop
 |mk{W' bH m v s'}:dt [x,dx] W s W' s'->Pre S aa ab W' af bH s'->By S W' s' Ca x dx fs (ms++[m]) (vs++[v])->uL ab self x s'.heap->Q m bH->Gk S aa ab af Ca x dx self fs ms vs W s Q .next s'
inductive rv(S:aW)(Ca x dx:Addr)(sO:List Str)(W:Wd)(s:Shared)(Q:List MV->MH->Prop):Flow->Shared->Prop
 |mk{W' bH ms vs s'}:dt [x,dx] W s W' s'->Rel S W' bH s'.heap->By S W' s' Ca x dx sO ms vs->Q ms bH->rv S Ca x dx sO W s Q .next s'
inductive p6(D:DP)(sc:Sc)(self f:Str):Stmt->PE->Prop
 |ok{pn pg v pos}:hF v=true->p6 D sc self f (.Assign [.Attribute (.Name self pn) f pg] v pos) (D.e sc v)
 |bad{s}:p6 D sc self f s dk
section
variable{sc:Sc}
def p6.of{x:Stmt}(h:e=e')(k:p6 D sc self f x e'):p6 D sc self f x e:=h▸k
def Q8{v:Expr}:p6 D sc self f (.Assign [.Attribute o g pg] v pos) (DB o (λn=>gE (seq n self&&seq g f&&hF v) (D.e sc v)) dk):=
 (vx o).casesOn (λ{n p}=>by
  show p6 D sc self f _ (gE (seq n self&&seq g f&&hF v) (D.e sc v));cases h:seq n self&&seq g f&&hF v with
  |false=>exact .bad
  |true=>
   obtain rfl:=seq_eq (aA (aA h).1).1;obtain rfl:=seq_eq (aA (aA h).1).2;exact .ok (aA h).2) .bad .bad .bad .bad .bad λo=>.of (o.e _ _ _ _ _ _ _) .bad
def Q9{v:Expr}:p6 D sc self f (.Assign [t] v pos) (Yo t (λo g Z=>DB o (λn=>gE (seq n self&&seq g f&&hF v) (D.e sc v)) dk) dk):=
 (vx t).casesOn .bad .bad Q8 .bad .bad .bad λo=>.of (o.e _ _ _ _ _ _ _) .bad
def aaX(s:Stmt):p6 D sc self f s (LW D sc self f s):=by
 cases s with
 |Assign T v p=>exact match T with
  |[]=>.bad
  |_::_::_=>.bad
  |[t]=>Q9
 |_=>exact .bad
def Q_(X:S.K.In s.heap)(K:yf S Ca fI sO)(h:s.heap.get? x=some (instObj Ca dx))(d:xh s.heap dx fs vs)(f:name∈sO)(g:name∉fs)(j:fs.length<=900)(q:∀{h' tk},Heap.SameBut dx s.heap h'->xh h' dx (fs++[name]) (vs++[v])->Q () {s with heap:=h',toks:=tk}):WP S A (setAttr (.ref x) name v) Q s:=
 d.casesOn λ{es ep D k} H r=>(any_some K.has).elim λcd z=>by
 have i:InstAt s.heap x (instObj Ca dx) Ca (some ⟨.type "dict",D,.dict es ep,k⟩):=⟨h,rfl,rfl,H⟩;refine set_plain X i K.set (osa_open X i K.over (by unfold takerIn;exact rX (K.no f) rfl) λb=>?_);have c:Looks (model pw S.w) s.heap (classData Ca) cd:=looks_clsIn X z.1;refine ae (ao (ae (ae (wpAny_loadPart h (ae (c _ _ _ _ (λZ Z e=>e) ?_))))));refine rX z.2 ?_;refine ao (ae (ao (ae (wpAny_mono (MM (Q:=λZ a=>xh a.heap dx (fs++[name]) (vs++[v])/\Q () a) (.mk H r) g λsb w=>⟨w,q sb w⟩) (λZ a w=>w.1.casesOn λl m=>ae (wpAny_lookBehind l (pastItsLine_dict ?_) (ao w.2))) j8))));exact rX (Array.length_toList).symm (rX m.len (rX c9 (bt (aS j 1) (by decide))))
end
def wc:Code.weight (.builtin "type.__call__" ⟨.ref a::vs,[]⟩)<=2:=aR (by kernel_rfl)
def Ie:Code.cUnits (.builtin "type.__call__" ⟨.ref a::vs,[]⟩)<=4:=aR (by kernel_rfl)
section
variable{s1:Shared}{sc:Sc}
def xh.keep(n:xh h dx fs vs)(k:∀{o},h.get? dx=some o->h'.get? dx=some o):xh h' dx fs vs:=n.casesOn λe r=>.mk (k e) r
def Y2{v:Expr}(G:xf S)(H:MO S Ca fI x dx sO self ab)(u:ug S A aa ab (eval v ab) ee)(w:hF v=true)(P:Pre S aa ab W af J s)(c:By S W s Ca x dx fs ms vs)(y:uL ab self x s.heap)(B:f∈sO)(C:f∉fs)(E:fs.length<=900)(q:ee af J Q):
  WP S A (PySem.exec (.Assign [.Attribute (.Name self pn) f pg] v pos) ab) (Gk S aa ab af Ca x dx self (fs++[f]) ms vs W s Q) s:=
 zA (kK (t:=some (.Attribute (.Name self pn) f pg)) (n:=pos.line) (ab:=ab) w) ((u P q).mono λ{V s1} q=>q.casesOn λ{W1 cx m} g R r e=>zB rfl rfl (by
  exact y.elim λL z=>
   have h:Apart [x,dx] W1 s1.heap:=Apart.step c.1 g.todW;have i:=g.keep c.2.1 (c.1 eE).2.1 d6;have D:=c.2.2.1.keep λe=>g.keep e (c.1 (fg eE)).2.1 d6;have j:=z.1.at λo e=>g.keep e (P.r.ap mV).2.1 d6
   ae (aU (wpAny_Name (wpAny_loadName_local P.K.kind H.2.2.2.1 j z.2 (ae (a4 (ae (aU (Q_ (R.K G.1) H.1 i D B C E λ{l T} sb N=>
    have k{b o}(n:b∉[x,dx])(e:s1.heap.get? b=some o):l.get? b=some o:=(sb.2 b λq=>n (q▸fg eE)).trans e;have d:=(sb.2 x H.2.1).trans i;have p:dt [x,dx] W1 s1 W1 {s1 with heap:=l,toks:=T}:=.mk (og k λm=>ot (P:=λa=>l.get? a≠none) m (cD d) (N.casesOn λe Z=>cD e)) ⟨rfl,rfl,rfl⟩
    wpAny_release' (.mk (g.wide.trans p) ((P.to g R).keeps (R.apart h k) λm Z e=>k (H.2.2.1 m) e) ⟨Apart.step h p.todW,d,N,(c.2.2.2.1.mono g.sub ms _).append (.one r),rX c9 (rX c9 (rX c.2.2.2.2 rfl))⟩ ⟨L,j.at λo e=>k (H.2.2.1 mV) e,z.2⟩ e))))))) H.2.2.2.2))))
def Y3{st:Stmt}(X:Cx S C d)(c:f3 A d)(g:ab.scope.names=sc)(HD:sG S d aa D)(H:MO S Ca fI x dx sO self ab)(V:p6 D sc self f st ee)(P:Pre S aa ab W af J s)(a:By S W s Ca x dx fs ms vs)(b:uL ab self x s.heap)(i:f∈sO)(j:f∉fs)(k:fs.length<=900):ee af J Q->
  WP S A (PySem.exec st ab) (Gk S aa ab af Ca x dx self (fs++[f]) ms vs W s Q) s:=
 V.casesOn (λ{_ _ v _} h e=>Y2 X.G H (HD.e sc v c g) h P a b i j k e) (λe=>az e)
def rv.pre(f:dt [x,dx] W s W1 s1)(q:rv S Ca x dx sO W1 s1 Q g s'):rv S Ca x dx sO W s Q g s':=
 rv.casesOn q λa b c d=>.mk (f.trans a) b c d
theorem MP(X:Cx S C d)(n:f3 A d)(o:ab.scope.names=sc)(HD:sG S d aa D)(H:MO S Ca fI x dx sO self ab):∀{B:List Stmt}{i b:List Str}{yZ:List MV}{v:List Value}{W:Wd}{J:MH}{s:Shared}{Q p:List MV->MH->Prop},B.length=i.length->sO=b++i->Pre S aa ab W af J s->By S W s Ca x dx b yZ v->uL ab self x s.heap->
  eL (x5 D sc self B i) af J Q->(∀{l J},Q l J->p (yZ++l) J)->WP S A (execs B ab) (rv S Ca x dx sO W s p) s
 |[],[],b,yZ=>λZ j P a Z e k=>wpAny_execs_nil (.mk (.refl ..) P.R ((j.trans (append_nil b))▸a) (append_nil yZ▸k e))
 |[],_::_,_,_=>λh Z Z Z Z Z Z=>nomatch h
 |_::_,[],_,_=>λh Z Z Z Z Z Z=>nomatch h
 |st::B,f::i,b,yZ=>λh j P a c e k=>
  D3 ((Y3 X n o HD H (aaX st) P a c (j▸rL (.inr eE)) (λm=>(nodup_append.1 (j▸H.1.nd)).2.2 f m f eE rfl) (bt (ar b.length (f::i).length) (c9▸j▸H.1.few)) e).mono λ{g t} q=>
   Gk.casesOn q λ{_ _ m _ _} r P a c e=>
    (MP X n o HD H (bz h) (j.trans (append_assoc b [f] i).symm) P a c e λ{l _} e=>(append_assoc yZ [m] l).symm▸k e).mono (rv.pre r))
end
abbrev S8(Ca:Addr)(hh H:Heap)(x d:Addr):Prop:=(∀{b o},hh.get? b=some o->H.get? b=some o)/\H.get? x=some (instObj Ca d)/\H.get? d=some emptyDict/\hh.get? x=none/\hh.get? d=none/\x≠d
section
variable{sc:Scope}{ml:List MV}
def aaY:S8 Ca hh ((hh.push emptyDict).push (instObj Ca hh.objs.size)) (hh.objs.size+1) hh.objs.size:=
 ⟨λe=>Heap.get?_push_of_some _ (Heap.get?_push_of_some _ e),(Heap.size_push hh emptyDict)▸Heap.get?_push_size _ rfl,Heap.get?_push_of_some _ (Heap.get?_push_size _ rfl),fJ (aE _),fT _,Nat.succ_ne_self _⟩
def wd(st:dW [] W h W1 h')(n:W1.fz a=none)(H:h.get? a=none):dW [] W h (W1.put a o) h':=
 ⟨st.sub.trans (gB n),st.keep,st.live,st.oc,λe=>lk e (λq Z=>.inr (.inl (q▸H))) st.ra,st.len⟩
def MQ(i:S8 (dD c) s.heap H x dx)(E:Ent S W J aa vs af sc {s with heap:=H} ab mB)(q:rv S (dD c) x dx (eu c) W mB (λl J=>Q (.obj c l) J) g d)(k:∀{d},Lq S W s Q (.ref x) d->Rr (.ok (.ret (.ref x))) d):InitBack x Rr (.ok (.ret (YP g))) d:=
 rv.casesOn q λ{W1 cx h vs d} f R b e=>⟨rfl,k (b.2.2.1.casesOn λ{es ep D o} j r=>
  have ad:=b.1 (fg eE);have n:=(rf i.2.2.2.2.2).trans (b.1 eE).2.2;have B:=(pe (λe Z=>i.1 e) (iI i.1)).trans (E.2.2.1.wide.trans f).todW
  .mk (m:=.obj c h) (.mk (wd (wd (dW.finish B (λZ e=>e) λm=>ot (P:=λa=>s.heap.get? a=none) m i.2.2.2.1 i.2.2.2.2.1) ad.2.2 i.2.2.2.2.1) n i.2.2.2.1) ((⟨rfl,rfl,rfl⟩:Sh s {s with heap:=H}).trans (E.2.2.1.toSh.trans f.toSh)))
   ((R.FO ad.2.2 ad.2.1 (λe Z=>e) j).FO n (b.1 eE).2.1 (λe Z=>e) b.2.1) (Ob.mk jI ((gB n).fz jI) r.Q7 ((b.2.2.2.1.mono (gB ad.2.2) _ _).mono (gB n) _ _) b.2.2.2.2) e)⟩
def MR(X:Cx S C d)(k:f3 A (d+1))(D:c5 f=dD c)(K:yf S (dD c) fI (eu c))(g:FnAt S fI (h::rest) p fn.gk sc body)(H:sc.names.lookup h=some .local)(n:(h==("__debug__" :Str))=false)
  (j:body.length=(eu c).length)(L:(h::rest).length=fn.aa)(v:fn.params=p+fn.gk.length)(R:Rel S W J s.heap)(r:aC S W ml vs)(o:frame fn (none::ml.map some)=some af)(e:eL (x5 (den C (h::rest) 24) sc.names h body (eu c)) af J λl J=>Q (.obj c l) J):
  WP S A (PySem.call (.ref (c5 f)) vs) (Lq S W s Q) s:=(Bs v o).elim λq z=>by
 refine rX D ?_;have x:=R.K X.G.1;have i:=aaY (Ca:=dD c) (hh:=s.heap);refine wpAny_call (make_core (makes_of x K.makes) (looks_findIn x K.init) (λh=>bind_fn x h K.fn) (.inl rfl) ?_);have w2:=Ie (a:=dD c) (vs:=vs);have T:=k.units;refine Br g (gf 0x701421180835001221611765011 rfl (wc) k.depth) (R.keeps i.1) r.u.D5 z.1 z.2.1 λ{ab y} E=>?_;have t:f3 ((A.under (.builtin "type.__call__" ⟨.ref (dD c)::vs,[]⟩)).deeper ab) d:=⟨k.handled,gf 0x801421170835001221611801427831165000011 rfl (wc) k.depth,show A.units+Code.cUnits (.builtin "type.__call__" ⟨.ref (dD c)::vs,[]⟩)+3+60*d+200<cLine by lia⟩;have B:=(congrArg (λz:Scope=>z.names.lookup h) E.1).trans H;have P:=E.2.2.2.1;rw[L,<-v,<-z.2.2]at P;have N:Apart [s.heap.objs.size+1,s.heap.objs.size] W _:=λ{b} m=>ot (P:=λb=>Heap.get? _ b≠none/\b∉W.ls/\W.fz b=none) m ⟨cD i.2.1,R.ue i.2.2.2.1,R.qp i.2.2.2.1⟩ ⟨cD i.2.2.1,R.ue i.2.2.2.2.1,R.qp i.2.2.2.2.1⟩
 exact(MP X t rfl (zx X 24) ⟨K,i.2.2.2.2.2,λm w=>ot (P:=λb=>Heap.get? _ b≠none) w (cD i.2.1) (cD i.2.2.1) (E.2.1 m),B,n⟩ (yZ:=[]) j rfl P
  ⟨Apart.step N E.2.2.1.todW,E.2.2.1.keep i.2.1 (R.ue i.2.2.2.1) d6,.mk (E.2.2.1.keep i.2.2.1 (R.ue i.2.2.2.2.1) d6) .nil,rfl,rfl⟩ (E.2.2.2.2.elim λm w=>⟨m,w.1,w.2 rfl rfl B⟩) (rX E.1 e) id).mono λw=>MQ i E w id
end
inductive tX(S:aW)(f:Nat)(fn:Fn):Prop
 |bad{b}:fn.body=.fn b->(∀{C af J K},b C af J K->False)->tX S f fn
 |fn{b aa p sc body}:fn.body=.fn b->(∀C,b C=Bc C aa sc.names body)->FnAt S (c5 f) aa p fn.gk sc body->aa.length=fn.aa->fn.params=p+fn.gk.length->tX S f fn
 |cls{c u5 fI p sc body self rest}:fn.body=.cls c u5->(∀C,u5 C=x5 (den C (self::rest) 24) sc.names self body (eu c))->c5 f=dD c->yf S (dD c) fI (eu c)->FnAt S fI (self::rest) p fn.gk sc body->sc.names.lookup self=some .local->(self==("__debug__" :Str))=false->body.length=(eu c).length->(self::rest).length=fn.aa->fn.params=p+fn.gk.length->tX S f fn
abbrev Gl(S:aW)(fns:List Fn):Prop:=xf S/\F5 S/\(∀{f fn},gi fns f=some fn->tU S f\/tV S f)/\∀{f fn},gi fns f=some fn->tX S f fn
def Bz(h:fn.body=.fn b)(e:gy C fn ms J Q):∃af,frame fn (ms.map some)=some af/\b C af J (eN Q):=by
 unfold gy at e;rw[h]at e;cases q:frame fn (ms.map some)with
 |none=>rw[q]at e;exact e.elim
 |some af=>rw[q]at e;exact⟨af,rfl,e⟩
def Ig(h:fn.body=.cls c i)(e:gy C fn ms J Q):∃af,frame fn (none::ms.map some)=some af/\eL (i C) af J (λl J=>Q (.obj c l) J):=by
 unfold gy at e;rw[h]at e;cases q:frame fn (none::ms.map some)with
 |none=>rw[q]at e;exact e.elim
 |some af=>rw[q]at e;exact⟨af,rfl,e⟩
def aaZ(X:Cx S C d)(g:f3 A (d+1))(K:tX S f fn)(R:Rel S W J s.heap)(r:aC S W ms vs)(e:gy C fn ms J Q):WP S A (PySem.call (.ref (c5 f)) vs) (Lq S W s Q) s:=
 K.casesOn (λh k=>(Bz h e).elim λZ z=>(k z.2).elim)
 (λh k a H b=>(Bz h e).elim λZ z=>YV X g a H b R r z.1 (k C▸z.2))
 (λh k i K a j c l H b=>(Ig h e).elim λZ z=>MR X g i K a j c l H b R r z.1 (k C▸z.2))
def MT(e:nu fns (n+1) f ms J Q):∃a,gi fns f=some a/\nG (nu fns n) a ms J Q:=by
 dsimp only[nu]at e;cases q:gi fns f with
 |none=>rw[q]at e;exact e.elim
 |some a=>rw[q]at e;exact⟨a,rfl,e⟩
def Y4(P:Gl S fns):∀d,LZ S (nu fns d) d:=by
 intro m;induction m with
 |zero=>exact⟨λZ Z Z e=>az e,λe=>az e⟩
 |succ d i=>exact have X:=Y1 P.1 P.2.1 (i)
  ⟨λh R r e=>(MT e).elim λZ z=>Q6 (aaZ X h (P.2.2.2 z.1)) R r z.2,λe=>(MT e).elim λZ z=>P.2.2.1 z.1⟩
inductive VV:Value->Prop
 |n:VV .none
 |b{x}:VV (.bool x)
 |i{x t}:VV (.int x t)
 |s{x t}:VV (.str x t)
 |r{a}:VV (.ref a)
 |o{v}:(∀{α:Type}(n:α)(b:Bool->α)(i:Int->α)(s:Str->α)(r:Addr->α)(o:α),i_ v n b i s r o=o)->VV v
def vv(v:Value):VV v:=by cases v<;>first|exact .n|exact .b|exact .i|exact .s|exact .r|exact .o λZ Z Z Z Z Z=>rfl
def tY(h:mh o=some p):o=⟨p.1,none,p.2,#[]⟩:=by
 cases o with
 |mk c d e s=>
  cases d with
  |some _=>exact nn h
  |none=>
   replace h:(match s.isEmpty with|true=>some (c,e)|false=>none)=some p:=h;cases q:s.isEmpty with
   |false=>rw[q]at h;exact nn h
   |true=>
    rw[q]at h;exact rX (Array.isEmpty_iff.1 q) (rX (aj h).symm rfl)
def Ra(h:Sv k d=true):∃vs c,d=.seq vs c/\k vs.toList=true:=by
 cases d with
 |seq vs c=>exact⟨vs,c,rfl,h⟩
 |_=>exact ft h
def MU{K:Frag}(h:vg K a n k=true):∃vs c,K.lookup a=some (so n vs c)/\k vs.toList=true:=by
 unfold vg at h;cases e:K.lookup a with
 |none=>have h:=e▸h;exact ft h
 |some o=>
  have h:=e▸h;dsimp only at h;cases q:mh o with
  |none=>have h:=q▸h;exact ft h
  |some p=>
   rw[q]at h;have h:=aA h;exact(Ra h.2).elim λvs z=>z.elim λc z=>⟨vs,c,rX (tY q) (rX (eq_of_beq h.1) (rX z.1 rfl)),z.2⟩
def MW(X:S.K.In S.h₀)(o:Over S W)(i:∀vs,mN S.K l vs=true->aC S W l vs)(h:(vg S.K a n (mN S.K l)&&decide (l.length<=cL))=true):Sq W.fz n (aC S W l) l.length (.ref a):=
 (MU (aA h).1).elim λvs z=>z.elim λc z=>.mk (o (X _ _ z.1)) (i _ z.2) (of_decide_eq_true (aA h).2)
mutual
theorem Gm(X:S.K.In S.h₀)(o:Over S W):∀(m:MV)(v:Value),Jq S.K m v=true->aF S W m v
 | .none=>λv h=>(vv v).casesOn (λZ=>rfl) ft ft ft ft (λk h=>ft (ag (k ..) h)) h
 | .bool a=>λv h=>(vv v).casesOn ft (λh=>congrArg Value.bool (eq_of_beq h)) ft ft ft (λk h=>ft (ag (k ..) h)) h
 | .int a=>λv h=>(vv v).casesOn ft ft (λh=>eq_of_beq h▸ri) ft ft (λk h=>ft (ag (k ..) h)) h
 | .str a=>λv h=>(vv v).casesOn ft ft ft (λh=>seq_eq h▸gC) ft (λk h=>ft (ag (k ..) h)) h
 | .fn a=>λv h=>(vv v).casesOn ft ft ft ft (λh=>congrArg Value.ref (eq_of_beq h)) (λk h=>ft (ag (k ..) h)) h
 | .tup l=>λv h=>(vv v).casesOn ft ft ft ft (λh=>MW X o (λZ=>oD X o l _) h) (λk h=>ft (ag (k ..) h)) h
 | .aQ l=>λv h=>(vv v).casesOn ft ft ft ft (λh=>MW X o (λZ=>oD X o l _) h) (λk h=>ft (ag (k ..) h)) h
 | .obj _ _=>λZ=>ft
 | .lst _=>λZ=>ft
 | .iD _=>λZ=>ft
 | .dZ _ _=>λZ=>ft
theorem oD(X:S.K.In S.h₀)(o:Over S W):∀(m:List MV)(v:List Value),mN S.K m v=true->aC S W m v
 |[]=>λv=>v.casesOn (λZ=>rfl) λZ Z=>ft
 |m::ms=>λv=>v.casesOn ft λZ Z h=>have h:=aA h;.mk (Gm X o m _ h.1) (oD X o ms _ h.2)
end
abbrev PrR(p:Arguments)(ns:List Str):Prop:=p.posonlyargs=[]/\p.vararg=none/\p.kwonlyargs=[]/\p.kwarg=none/\p.args.map (·.arg)=ns
section
variable{fd:FuncData}{K:Frag}
def Rb(h:fdOf o=some fd):o.data=.func fd:=by
 unfold fdOf at h;cases e:o.data<;>rw[e]at h<;>first|exact congrArg Data.func (aj h)|exact nn h
def MX(h:CF o=true):∃cd,o.data=.cls cd:=by
 unfold CF at h;cases e:o.data<;>rw[e]at h<;>first|exact⟨_,rfl⟩|exact ft h
def MY(h:CG o=some vs):∃n,o.data=.seq vs n:=by
 unfold CG at h;cases e:o.data with
 |seq l n=>rw[e]at h;obtain rfl:=aj h;exact⟨n,rfl⟩
 |_=>have h:=e▸h;exact nn h
def S9{β:Type}{f:Obj->Option β}{b:β}(h:(match K.lookup a with|some o=>f o|none=>none)=some b):∃o,K.lookup a=some o/\f o=some b:=by
 cases e:K.lookup a with
 |none=>have h:=e▸h;exact nn h
 |some o=>rw[e]at h;exact⟨o,rfl,h⟩
def MZ(h:uw K a=true):∃o cd,K.lookup a=some o/\o.data=.cls cd:=by
 unfold uw at h;cases e:K.lookup a with
 |none=>rw[e]at h;exact ft h
 |some o=>rw[e]at h;exact(MX h).elim λcd z=>⟨o,cd,rfl,z⟩
def Gn(h:vj K a=some fd):∃o,K.lookup a=some o/\o.data=.func fd:=(S9 h).elim λo z=>⟨o,z.1,Rb z.2⟩
def Gp(h:x.isNone=true):x=none:=Option.isNone_iff_eq_none.1 h
def rx(h:Nat.beq a b=true):a=b:=lT h
def M0(h:Ae p ns=true):PrR p ns:=
 have H:=aA (aA (aA h).1).1
 ⟨nil_of (aA H.1).1,Gp (aA H.1).2,nil_of H.2,Gp (aA (aA h).1).2,eq_of_beq (aA h).2⟩
def Y5(X:S.K.In S.h₀)(h:Sw S.K v eI=true):v_ S v eI:=
 (vv v).casesOn (λh=>nil_of h▸.no) ft ft ft (λ{a} h=>by
  replace h:(match CJ S.K a with|some vs=>mN S.K eI vs.toList|none=>false)=true:=h;cases e:CJ S.K a with
  |none=>have h:=e▸h;exact ft h
  |some vs=>
   have h:=e▸h;exact(S9 e).elim λo z=>(MY z.2).elim λn w=>.mk (X _ _ z.1) w λo=>oD X o _ _ h) (λk h=>ft (ag (k ..) h)) h
def Rc(h:qS b=some body):b=.stmts body:=by
 cases b with
 |stmts l=>exact congrArg FuncBody.stmts (aj h)
 |_=>exact nn h
def Rd(k:PrR p names):p=⟨[],p.args,none,[],p.kw_defaults,none,p.defaults⟩:=by
 cases p;obtain rfl:=k.1;obtain rfl:=k.2.1;obtain rfl:=k.2.2.1;obtain rfl:=k.2.2.2.1;rfl
def Y6{cl:List (Str×Addr)}(a:fd.closure=cl)(c:fd.globals=g)(d:fd.builtins=bi)(h:fd.body=b)(k:fd.params=p):fd=⟨fd.name,fd.qualname,p,b,fd.scope,g,cl,fd.defaults,fd.kwdefaults,fd.doc,fd.pyModule,fd.annotations,fd.code,fd.closureTuple,bi⟩:=by
 subst a c d h k;rfl
def aa0(X:S.K.In S.h₀)(c:S.h₀.get? a=some o)(d:o.data=.func fd)(h:fdB S.K fd names eI=true)(e:qS fd.body=some body):YO S a names eI fd.scope body:=
 have H:=aA (aA h).1;have b:=aA (aA H.1).1
 .mk c (d.trans (congrArg Data.func (Y6 (nil_of (aA b.1).1) (rx (aA b.1).2) (rx b.2) (Rc e) (Rd (M0 H.2))))) (codeRec_of X (aA H.1).2) (M0 H.2).2.2.2.2 (Y5 X (aA h).2)
def Y7{sc:Sc}(h:Jr sc x=true):sc.lookup x=some .local\/sc.lookup x=some .cell:=by
 unfold Jr at h;cases e:sc.lookup x with
 |none=>rw[e]at h;exact ft h
 |some k=>rw[e]at h;cases k<;>first|exact .inl rfl|exact .inr rfl|exact ft h
def M1{fd:FD}(h:rP K a=some fd):∃d,vj K a=some d/\qS d.body=some fd.body/\d.scope=fd.scope:=by
 unfold rP at h;cases e:vj K a with
 |none=>rw[e]at h;exact nn h
 |some d=>
  rw[e]at h;dsimp only at h;cases q:qS d.body with
  |none=>rw[q]at h;exact nn h
  |some b=>
   rw[q]at h;obtain rfl:=aj h;exact⟨d,rfl,q,rfl⟩
abbrev FnS(S:aW)(a:Addr)(v:List Str)(f:Fn)(sc:Scope)(b:List Stmt):Prop:=(∃p,FnAt S a v p f.gk sc b/\f.params=p+f.gk.length)/\v.length=f.aa
def M3{fd:FD}(X:S.K.In S.h₀)(l:S.h₀.NoLimit)(b:rP S.K a=some fd)(h:Pa S.K a aa fn=true):FnS S a aa fn fd.scope fd.body:=
 (M1 b).elim λd z=>(Gn z.1).elim λo w=>by
 unfold Pa at h;have h:=z.1▸h;have H:=aA h;have s1:=aA (aA (aA (aA H.1).1).1).2;have s3:=aA (aA s1.1).1;have s:=aA (aA s3.1).1;have e:=(Nat.sub_add_cancel (aR (aA H.1).2)).symm;exact⟨⟨_,⟨e▸z.2.2▸aa0 X (X _ _ w.1) w.2 (aA (aA (aA H.1).1).1).1 z.2.1,z.2.2▸eq_of_beq (aA s.1).1,z.2.2▸p4 (aA s.1).2,z.2.2▸p4 s.2,ps (aA s3.1).2,e▸aR H.2,z.2.2▸ps s3.2,λ{x} m=>z.2.2▸Y7 (all_eq_true.1 (aA s1.1).2 x (e.symm▸m)),λx m=>ft (show frB (x,.free)=true from all_eq_true.1 s1.2 _ (z.2.2.symm▸m)),l⟩,e⟩,rx (aA (aA H.1).1).2⟩
end
noncomputable def M4{α β:Type}(f:Nat->α->β):Nat->List α->List β
 |_,[]=>[]
 |i,x::l=>f i x::M4 f (i+1) l
def BA(f:Nat):au->PS:=match qT f with
 |true=>λZ=>gL
 |false=>λC=>Bc C (nX f) (rQ f).scope.names (rQ f).body
def selfOf(l:List Str):Str:=match l with|x::_=>x|[]=>k_
def aa1(c f:Nat):au->List PE:=λC=>x5 (den C (nX f) 24) (rQ f).scope.names (selfOf (nX f)) (rQ f).body (eu c)
def Gq(f:Nat)(b:Body):Body:=match b with
 | .fn _=>.fn (BA f)
 | .cls c _=>.cls c (aa1 c f)
def M5(f:Nat)(a:Fn):Fn:=⟨a.params,a.gk,a.aa,Gq f a.body⟩
def Rg:M4 M5 0 fns=fns:=by kernel_rfl
section
variable{α β:Type}
theorem yg:∀{l:List α}{i n:Nat}{x:α},gi l n=some x->gi (M4 g i l) n=some (g (i+n) x)
 |[],_,_=>λe=>nn e
 |_::_,_,0=>λe=>congrArg (some∘_) (aj e)
 |_::l,i,n+1=>λe=>(yg (l:=l) e).trans (by rw[cF])
theorem we:∀{l:List α}{i n:Nat}{x:α},allI p i l=true->gi l n=some x->p (i+n) x=true
 |[],_,_=>λZ e=>nn e
 |_::_,_,0=>λh e=>aj e▸(aA h).1
 |_::l,i,n+1=>λh e=>by
  have z:=we (aA h).2 e;rw[cF]at z;exact z
def Gr(h:gi fns f=some fn):fn.body=Gq f fn.body:=by
 have z:=yg (g:=M5) (i:=0) h;rw[Rg,h,aD]at z;exact congrArg Fn.body (aj z)
def M6(h:W_ S.K c=true):yf S (dD c) (rO c) (eu c):=
 have H:=aA (aA (aA h).1).1;have a:=aA (aA H.1).1;have b:=aA (aA a.1).1
 ⟨(aA b.1).1,eq_of_beq (aA b.1).2,eq_of_beq b.2,eq_of_beq (aA a.1).2,a.2,(aA H.1).2,λm=>eq_of_beq (all_eq_true.1 H.2 _ m),ps (aA (aA h).1).2,aR (aA h).2⟩
theorem ry:∀{l:List Nat}{j i:Nat},oP k l j=some i->∃m,i=j+m/\l[m]?=some k
 |[]=>λe=>nn e
 |x::l=>λe=>by
  replace e:(match Nat.beq x k with|true=>some _|false=>oP k l (_+1))=some _:=e;cases q:Nat.beq x k with
  |true=>rw[q]at e;exact⟨0,(aj e).symm,congrArg some (rx q)⟩
  |false=>rw[q]at e;exact(ry e).elim λm z=>⟨m+1,z.1.trans (cF _ m),z.2⟩
theorem yh:∀{l:List α}{n:Nat}{x:α},gi l n=some x->l.getD n d=x
 |[],_=>λe=>nn e
 |_::_,0=>λe=>aj e
 |_::l,_+1=>λe=>yh (l:=l) e
def Gs(h:fieldOf c k=some i)(H:fieldNames[k]?=some n):(eu c)[i]?=some n:=by
 unfold fieldOf at h;cases e:gi mI c with
 |none=>rw[e]at h;exact nn h
 |some l=>
  rw[e]at h
  exact(ry h).elim λm z=>by
   unfold eu;refine rX (yh e) ?_;refine rX hW ?_;refine rX z.1 ?_;rw[aD];refine rX z.2 ?_;exact congrArg some ((List.getD_eq_getElem?_getD ..).trans (rX H rfl))
def BB:∀{l:List (Nat×Nat)},um m l=some f->(m,f)∈l:=by
 intro a;induction a with
 |nil=>exact λe=>nn e
 |cons x l i=>
  intro e;replace e:(match Nat.beq x.1 m with|true=>some x.2|false=>um m l)=some f:=e;cases q:Nat.beq x.1 m with
  |true=>rw[q]at e;exact mem_cons.2 (.inl (Prod.ext (rx q).symm (aj e).symm))
  |false=>rw[q]at e;exact fg (i e)
abbrev S_(S:aW)(c:Nat)(m:List (Nat×Nat)):Prop:=yf S (dD c) (rO c) (eu c)/\findIn S.K (.ref (dD c)) "__getattribute__" =some (some (.builtin "object.__getattribute__"))/\findIn S.K (.ref (dD c)) "__getattr__" =some none/\∀{p},p∈m->Fe S.K c p=true
def Rh(h:Af S.K c ms=true):S_ S c ms:=
 have H:=aA (aA h).1
 ⟨M6 (aA H.1).1,eq_of_beq (aA H.1).2,eq_of_beq H.2,λm=>all_eq_true.1 (aA h).2 _ m⟩
def Ri(h:Fe S.K c (m,f)=true)(a:iG[m]?=some n):LX S c f n:=by
 unfold Fe at h;rw[a]at h;have H:=aA h;exact⟨eq_of_beq (aA H.1).1,eq_of_beq H.2,λvs=>oA (qz (p4 (aA H.1).2))⟩
def sQ(h:c<4):∃m,gi jW c=some m:=match c,h with
 |0,_=>⟨_,rfl⟩
 |1,_=>⟨_,rfl⟩
 |2,_=>⟨_,rfl⟩
 |3,_=>⟨_,rfl⟩
 |_+4,h=>ak h (Nat.not_lt.2 (a5 ..))
def Rj(h:allI (Af S.K) 0 jW=true):F5 S:=
 have H{c}{b}(e:gi jW c=some b):S_ S c b:=Rh (aD c▸we h e)
 ⟨λh=>(sQ h).elim λZ e=>have z:=H e;⟨any_some z.1.has,z.2.1,z.2.2.1⟩,
  λh a=>(sQ (zp h)).elim λZ e=>have z:=H e;⟨z.1.no (gh (Gs h a)),λZ=>mA z.1.nd (Gs h a)⟩,
  λ{c m f n} h a=>(sQ (zq h)).elim λb e=>Ri ((H e).2.2.2 (BB (by unfold lE at h;have h:=e▸h;exact h))) a⟩
end
abbrev zF(S:aW):Prop:=(∀{f},f<75->rP S.K (Js f)=some (rQ f))/\allI (qd S.K) 0 fns=true/\S.K.In S.h₀/\S.h₀.NoLimit
def M7(h:(a||b)=true)(k:a=false):b=true:=(pF h).resolve_left λq=>tf (ag q k)
def Ih(h:qT f=true):BA f=λZ=>gL:=by unfold BA;exact rX h rfl
def M8(h:qT f=false):BA f=λC=>Bc C (nX f) (rQ f).scope.names (rQ f).body:=by unfold BA;exact rX h rfl
def M9(X:S.K.In S.h₀)(h:(vj S.K (c5 f)).isSome=true):tU S f:=(Option.isSome_iff_exists.1 h).elim λa e=>(Gn e).elim λo z=>⟨o,a,X _ _ z.1,z.2⟩
def M_(X:S.K.In S.h₀)(h:uw S.K (c5 f)=true)(q:specialIn S.K (.ref (c5 f)) "__call__" =some (some (.builtin "type.__call__"))):tV S f:=(MZ h).elim λo z=>z.elim λcd z=>⟨o,cd,X _ _ z.1,z.2,q⟩
def Y8(O:zF S)(a:f<75)(H:fn.body=.fn b)(e:fn.body=Gq f fn.body)(h:qd S.K f fn=true):(tU S f\/tV S f)/\tX S f fn:=by
 unfold qd at h;rw[H]at h e;have h:=aA h;refine⟨.inl (M9 O.2.2.1 h.1),?_⟩;cases q:qT f with
 |true=>exact .bad (H.trans (e.trans (congrArg Body.fn (Ih q)))) λe=>e
 |false=>
  have z:=M3 O.2.2.1 O.2.2.2 (rx (aA (M7 h.2 q)).1▸O.1 a) (aA (M7 h.2 q)).2;exact z.1.elim λp w=>.fn (H.trans (e.trans (congrArg Body.fn (M8 q)))) (λZ=>rfl) w.1 z.2 w.2
def Rk(h:CK f c=true):∃x r,nX f=x::r/\(rQ f).scope.names.lookup x=some .local/\(x==("__debug__" :Str))=false/\(rQ f).body.length=(eu c).length:=by
 unfold CK at h;cases e:nX f with
 |nil=>have h:=e▸h;exact ft h
 |cons x r=>
  rw[e]at h;have H:=aA h;exact⟨x,r,rfl,eq_of_beq (aA H.1).1,p4 (aA H.1).2,rx H.2⟩
def Y9(O:zF S)(d:f<75)(b:fn.body=.cls c i)(e:fn.body=Gq f fn.body)(h:qd S.K f fn=true):(tU S f\/tV S f)/\tX S f fn:=by
 unfold qd at h;rw[b]at h e;have a:=aA h;have H:=aA (aA a.1).1;refine⟨.inr (M_ O.2.2.1 (aA a.1).2 (eq_of_beq a.2)),?_⟩;have z:=M3 O.2.2.1 O.2.2.2 (rx (aA (aA (aA H.1).1).1).2▸O.1 d) (aA H.1).2
 exact z.1.elim λp w=>(Rk H.2).elim λx y=>y.elim λr y=>by
  have V:=z.2;have w1:=w.1;rw[y.1]at V w1;exact .cls (b.trans e) (λC=>by show x5 (den C (nX f) 24) _ (selfOf (nX f)) _ _=_;exact rX y.1 rfl) (rx (aA (aA (aA H.1).1).1).1) (M6 (aA (aA H.1).1).2) w1 y.2.1 y.2.2.1 y.2.2.2 V w.2
def Gu(h:gi fns f=some fn):f<75:=uH h
def Gv(O:zF S)(h:gi fns f=some fn):(tU S f\/tV S f)/\tX S f fn:=by
 refine I λa=>?_;have k:=we O.2.1 h;rw[aD]at k;cases H:fn.body with
 |fn b=>exact a (Y8 O (Gu h) H (Gr h) k)
 |cls c i=>exact a (Y9 O (Gu h) H (Gr h) k)
def Rl(O:zF S)(G:xf S)(h:allI (Af S.K) 0 jW=true):Gl S fns:=⟨G,Rj h,λe=>(Gv O e).1,λe=>(Gv O e).2⟩
end Mine
namespace Mine
open List PySem PySem.W PyProof.Rows PySem.Calls PySem.Challenge
section
variable{S:aW}{K:Frag}
theorem BC:∀{es:List DictEntry}{ns:List Str},CL es ns=true->dX es ns (es.map (·.val))
 |[],ns=>λh=>nil_of h▸.nil
 |_::_,[]=>λh=>ft h
 |⟨hh,k,v⟩::es,n::ns=>λh=>have h:=aA h
  (vv k).casesOn ft ft ft (λq=>seq_eq q▸.cons (BC h.2)) ft (λk q=>ft (ag (k ..) q)) h.1
def M'(h:CM K a k=true):∃es c,K.lookup a=some ⟨.type "dict",none,.dict es c,#[]⟩/\k es.toList=true:=by
 unfold CM at h;cases e:K.lookup a with
 |none=>have h:=e▸h;exact ft h
 |some o=>
  have h:=e▸h;dsimp only at h;cases q:mh o with
  |none=>have h:=q▸h;exact ft h
  |some p=>
   rw[q]at h;have h:=aA h;have z:=tY q;rw[eq_of_beq h.1]at z;cases d:p.2 with
   |dict es c=>
    have w:=h.2;rw[d]at w z;exact⟨es,c,congrArg some z,w⟩
   |_=>
    have w:=h.2;rw[d]at w;exact ft w
def BD(k:Str)(t:Tok):(strKind pw S.w).is k (.str k t)=true:=mS k t
def D'{es:List DictEntry}{ns vs}(r:dX es ns vs):es.map (·.hash)=ns.map (PyData.keyHash S.w.params)->∀e∈es,∃k,(strKind pw S.w).is k e.key=true/\e.hash=PyData.keyHash S.w.params k:=
 dX.rec (λZ Z m=>ak m d6) (λZ i h e m=>(hH m).elim (λq=>q▸⟨_,BD _ _,(List.cons.inj h).1⟩) λm=>i (List.cons.inj h).2 e m) r
def BF{es:List DictEntry}(r:dX es ns vs):Pairs (strKind pw S.w) es (ns.zip vs):=dX.rec .nil (λZ i=>.cons (BD _ _) rfl i) r
theorem wg{a β:Type}:∀{l:List a}{r:List β},l.length=r.length->(l.zip r).map (·.1)=l
 |[],_=>λZ=>rfl
 |_::_,[]=>λh=>nomatch h
 |_::_,_::_=>λh=>congrArg (_::·) (wg (bz h))
theorem BG{a β:Type}:∀{l:List a}{r:List β},l.length=r.length->(l.zip r).map (·.2)=r
 |[],[]=>λZ=>rfl
 |[],_::_=>λh=>nomatch h
 |_::_,[]=>λh=>nomatch h
 |_::_,_::_=>λh=>congrArg (_::·) (BG (bz h))
def Ij{es:List DictEntry}(r:dX es ns vs):ns.length=vs.length:=dX.rec rfl (λZ i=>congrArg (·+1) i) r
def Rm{es:Array DictEntry}(e:K.lookup a=some o)(d:o.data=.dict es c):Ag K a=es.toList.map (·.hash):=by unfold Ag;refine rX e ?_;dsimp only;exact rX d rfl
def Rn(X:S.K.In S.h₀)(o:Over S W)(h:(a==sysModules)=false)(e:Ag S.K a=keysOf S.w.params mv)(b:Xa S.K a mv=true):aF S W mv (.ref a):=by
 cases mv with
 |dZ k d=>
  exact(M' (aA b).2).elim λes z=>z.elim λc z=>
   have r:=BC (aA z.2).1;have hh:=ag (Rm z.1 rfl) e;have l:=Ij r
   Sd.mk (o (X _ _ z.1)) ⟨es,c,⟨rfl,rfl,rfl⟩,rfl,λe m=>D' r hh e (Array.mem_toList_iff.2 m),BF r,(wg l).symm▸ps (aA b).1⟩ h (wg l) ((BG l).symm▸oD X o d _ (aA z.2).2)
 |_=>exact ft b
end
end Mine
namespace Mine
open List PySem
def sV(o:List (Option R)):aK o 0=0:=by simp[aK]
def mC(h:o[p]?=some x):aK o (p+1)=aK o p+(if x.isSome then 1 else 0):=by
 unfold aK;refine rX take_add_one (rX h (rX filterMap_append ?_));cases x<;>simp
def cG(h:o[p]?=some none):aK o (p+1)=aK o p:=rX (mC h) rfl
def aP(h:o[p]?=some (some r)):aK o (p+1)=aK o p+1:=rX (mC h) rfl
def yi(o:List (Option R))(p:Nat):aK o p<=aK o (p+1)/\aK o (p+1)<=aK o p+1:=by
 cases h:o[p]? with
 |none=>
  have H:=List.getElem?_eq_none_iff.1 h;unfold aK;refine rX (take_of_length_le H) (rX (take_of_length_le (ln2 6945248773392 rfl H)) ?_);exact⟨et 21776 rfl,et 18154768 rfl⟩
 |some x=>refine rX (mC h) ?_;split<;>lia
def eT(h:p<=q):aK o p<=aK o q:=by
 induction h with
 |refl=>exact di
 |step h i=>exact bt i (yi o _).1
def kT(o:List (Option R)):aK o o.length=(o.filterMap id).length:=by simp[aK]
def uM(o:List (Option R))(p:Nat):aK o p<=(o.filterMap id).length:=by
 exact((take_sublist p o).filterMap id).length_le
def Ro(h:o[p]?=some (some r)):aK o p<(o.filterMap id).length:=by
 have:=uM o (p+1);rw[aP h]at this;exact ln2 6671427527953 rfl this
def Il(h:o[p]?=some (some r)):(o.filterMap id)[aK o p]?=some r:=by
 have e:o=o.take p++some r::o.drop (p+1):=by
  refine rX ((List.getElem?_eq_some_iff.1 h).2).symm ?_;rw[getElem_cons_drop,take_append_drop]
 have:(o.filterMap id)=(o.take p).filterMap id++r::(o.drop (p+1)).filterMap id:=by
  conv=>lhs;rw[e]
  exact rX filterMap_append rfl
 refine rX this (rX (List.getElem?_append_right (by simp[aK])) ?_);simp[aK]
def sX(h:q<(o.filterMap id).length):∃p r,o[p]?=some (some r)/\aK o p=q:=by
 have k:∀m,m<=o.length->q<aK o m->∃p r,o[p]?=some (some r)/\aK o p=q:=by
  intro m;induction m with
  |zero=>intro _ h;exact gY (et 90496373008 rfl h)
  |succ m i=>
   intro b h;by_cases a:q<aK o m
   ·exact i (ln2 6671427527952 rfl b) a
   ·have H:o[m]?=some o[m]:=dv (ln2 6671427527953 rfl b);cases c:o[m]with
    |none=>rw[c]at H;rw[cG H]at h;exact gY (ln2 0x56116512011110 rfl h (Nat.le_of_not_lt a))
    |some r=>rw[c]at H;rw[aP H]at h;exact⟨m,r,H,bJ (ln2 1695638800 rfl (Nat.le_of_not_lt a)) (ln2 1194085999888 rfl h)⟩
 exact k o.length di (by rw[kT];exact h)
def bT(h:o[p]?=some (some r)):(ay c o).rows[aK o p]?=some (cA o r):=by
 simp only[ay,hW,Il h,Option.map_some]
def cU(h:(ay c o).rows[q]?=some r'):∃p r,o[p]?=some (some r)/\aK o p=q/\r'=cA o r:=by
 have b:q<(o.filterMap id).length:=by have:=(cu h);simpa[ay]using this
 obtain⟨p,r,H,a⟩:=sX b;refine⟨p,r,H,a,?_⟩;have:=bT (c:=c) H;rw[a,h]at this;obtain rfl:=aj this;rfl
def fk:(ay c o).rows.length=(o.filterMap id).length:=by simp[ay]
def lZ(h:o.length=c.rows.length):(ay c o).rows.length<=c.rows.length:=rX fk (rX h.symm (length_filterMap_le _ _))
def oE(h:o[p]?=some (some r))(k:Ct):k.on p=true↔(aK o k.first<=aK o p/\aK o p<aK o k.last):=by
 unfold Ct.on;simp only[Bool.and_eq_true,decide_eq_true_eq];have H:=aP h;constructor
 ·rintro⟨a,b⟩;have c:aK o (p+1)<=aK o k.last:=eT (ln2 6945600786448 rfl b);exact⟨ln2 1695638800 rfl (eT a),bX 0x671111507146511 rfl H c⟩
 ·rintro⟨a,b⟩;constructor
  ·by_cases hh:k.first<=p
   ·exact hh
   ·have:aK o (p+1)<=aK o k.first:=eT (ln2 6945600786448 rfl (Nat.lt_of_not_le hh));lia
  ·by_cases hh:p<k.last
   ·exact hh
   ·have:aK o k.last<=aK o p:=eT (ln2 1695638800 rfl (Nat.le_of_not_lt hh));lia
def iA(o:List (Option R))(k:Ct):Ct:=⟨k.tv,aK o k.first,aK o k.last,aK o k.target⟩
def BI(h:o[p]?=some (some r))(cs:List Ct):(cs.filterMap (d8 o)).find? (·.on (aK o p))=(cs.find? (·.on p)).map (iA o):=by
 induction cs with
 |nil=>rfl
 |cons k cs i=>
  by_cases H:k.on p=true
  ·have b:=(oE h k).1 H;have:d8 o k=some (iA o k):=by unfold d8 iA;exact rX (aO (by exact bX 0x671275116511 rfl b.1 b.2)) rfl
   refine rX filterMap_cons (rX this (rX List.find?_cons (rX List.find?_cons ?_)));exact rX (show(iA o k).on (aK o p)=true by simp[iA,Ct.on,b]) (rX H rfl)
  ·refine rX List.find?_cons (rX (show k.on p=false by simpa using H) (rX filterMap_cons ?_));cases a:d8 o k with
   |none=>exact i
   |some d=>
    have:d=iA o k:=by
     unfold d8 at a;split at a
     ·obtain rfl:=aj a;rfl
     ·exact nn (a)
    subst this;refine rX List.find?_cons ?_
    have:(iA o k).on (aK o p)=false:=by
     rw[Bool.eq_false_iff];intro c;simp only[Ct.on,Bool.and_eq_true]at c;exact H ((oE h k).2 ⟨of_decide_eq_true c.1,of_decide_eq_true c.2⟩)
    exact rX this i
def m6(h:k'∈(ay c o).ax):∃k∈c.ax,k'=iA o k/\aK o k.first<aK o k.last:=by
 rw[ay,mem_filterMap]at h;obtain⟨k,a,e⟩:=h;unfold d8 at e;split at e
 ·rename_i H;obtain rfl:=aj e;exact⟨k,a,rfl,H⟩
 ·exact nn (e)
inductive kL(c:PC):Nat->Nat->Prop
 |refl (t):kL c t t
 |step {t u t' r}:c.rows[t]?=some r->r.o= .aM u->kL c u t'->kL c t t'
inductive j_(c:PC)(o:List (Option R))(K:Nat)(p:Nat):Nat->Prop
 |keep {r}:c.rows[p]?=some r->o[p]?=some (some r)->j_ c o K p 1
 |oF {r t t'}:c.rows[p]?=some r->r.o.bo=some t->kL c t t'->o[p]?=some (some (r.cC t'))->j_ c o K p 1
 |leave {r s g' t t'}:c.rows[p]?=some r->r.o= .aM t->kL c t t'->c.rows[t']?=some s->s.o= .leave->o[p]?=some (some ⟨.leave,g'⟩)->j_ c o K p 1
 |pp {x y}:c.rows[p]?=some x->c.rows[p+1]?=some y->o[p]?=some none->o[p+1]?=some none->x.o.isPlain=true->y.o= .pop->j_ c o K p 2
 |cp {x y z}:c.rows[p]?=some x->c.rows[p+1]?=some y->c.rows[p+2]?=some z->o[p]?=some none->o[p+1]?=some (some y)->o[p+2]?=some none->x.o= .dup->y.o.d9=true->z.o= .pop->j_ c o K p 3
 |ss {x y}:c.rows[p]?=some x->c.rows[p+1]?=some y->o[p]?=some none->o[p+1]?=some none->x.o= .swap->y.o= .swap->j_ c o K p 2
 |ds {x y}:c.rows[p]?=some x->c.rows[p+1]?=some y->o[p]?=some (some x)->o[p+1]?=some none->x.o= .dup->y.o= .swap->j_ c o K p 2
 |Rp {x y v k t g2}:c.rows[p]?=some x->c.rows[p+1]?=some y->x.o= .push v->y.o= .br k t->o[p]?=some none->o[p+1]?=some (bif v.truth==k then some ⟨.aM t,g2⟩else none)->j_ c o K p 2
 |BJ {x y z v t k l g2}:K=1->c.rows[p]?=some x->c.rows[p+1]?=some y->c.rows[t]?=some z->x.o= .push v->y.o= .aM t->z.o= .br k l->o[p]?=some none->o[p+1]?=some (some ⟨.aM (bif v.truth==k then l else t+1),g2⟩)->j_ c o K p 2
 |tu {x y b l g2}:K≠1->c.rows[p]?=some x->c.rows[p+1]?=some y->x.o= .br b (p+2)->y.o= .aM l->o[p]?=some (some ⟨.br (!b) l,g2⟩)->o[p+1]?=some none->j_ c o K p 2
 |sj {x}:c.rows[p]?=some x->x.o= .aM (p+1)->o[p]?=some none->j_ c o K p 1
 |sb {x b g'}:c.rows[p]?=some x->x.o= .br b (p+1)->o[p]?=some (some ⟨.pop,g'⟩)->j_ c o K p 1
 |dead {r}:K=2->c.rows[p]?=some r->¬Reach c p->o[p]?=some none->j_ c o K p 1
def j_.pos(h:j_ c o K p w):0<w:=by cases h<;>lia
structure jK(c:PC)(o:List (Option R))(K:Nat)(S:Nat->Prop):Prop where
 zero:S 0
 qW:∀p,S p->p<c.rows.length->∃w,j_ c o K p w/\S (p+w)/\p+w<=c.rows.length/\∀i,0<i->i<w->¬S (p+i)
 le:∀p,S p->p<=c.rows.length
 h7:∀p,marked c p=true->p<c.rows.length->S p
 len:o.length=c.rows.length
def dn{p:Nat}(h:c.rows[p]?=some r)(H:r.o.bo=some t):marked c t=true:=by
 unfold marked;simp only[Bool.or_eq_true,any_eq_true];exact .inl (.inl ⟨r,gh h,by simp[H]⟩)
def fW(h:k∈c.ax):marked c k.target=true:=by
 unfold marked;simp only[Bool.or_eq_true,any_eq_true];exact .inl (.inr ⟨k,h,by simp⟩)
def fX(h:s∈c.starts):marked c s=true:=by
 unfold marked;rw[Bool.or_eq_true,any_eq_true];exact .inr ⟨s,h,by simp⟩
theorem kL.marked(h:kL c t t')(m:marked c t=true):Mine.marked c t'=true:=by
 induction h with
 |refl=>exact m
 |step e E _ i=>exact i (dn e (rX E rfl))
def kL.lt(o:Ok c)(h:kL c t t')(m:t<c.rows.length):t'<c.rows.length:=by
 induction h with
 |refl=>exact m
 |step e E _ i=>exact i (o.t _ (gh e) _ (rX E rfl))
def Reach.bo(h:Reach c p)(H:c.rows[p]?=some r)(a:r.o.bo=some t):Reach c t:=by
 refine .step h ?_;unfold eJ;refine rX H ?_;simp[a]
def Reach.eR(h:Reach c p)(H:c.rows[p]?=some r)(a:r.o.bZ=false):Reach c (p+1):=by
 refine .step h ?_;unfold eJ;refine rX H ?_;simp[a]
def Reach.hand(h:Reach c p)(H:c.rows[p]?=some r)(a:k∈c.ax)(b:k.on p=true):Reach c k.target:=by
 refine .step h ?_;unfold eJ;refine rX H ?_;simp only[mem_append,mem_map,mem_filter];exact .inr ⟨k,⟨a,b⟩,rfl⟩
def kL.reach(h:kL c t t')(m:Reach c t):Reach c t':=by
 induction h with
 |refl=>exact m
 |step e E _ i=>exact i (m.bo e (rX E rfl))
def qA:∀{n p st r} (m:Nat),exec c n p st=some r->n<=m->exec c m p st=some r:=by
 intro n;induction n with
 |zero=>intro p st r m h;exact nn (h)
 |succ n i=>
  intro p st r m h H;obtain⟨m,rfl⟩:∃f,m=f+1:=⟨m-1,(Nat.sub_add_cancel (bt (a5 1 _) H)).symm⟩;dsimp only[exec]at h⊢;cases b:c.rows[p]? with
  |none=>have h:=b▸h;exact nn (h)
  |some x=>
   have h:=b▸h;simp only at h⊢;cases d:act x.o (p+1) st with
   |none=>rw[d]at h;exact nn (h)
   |some a=>
    have h:=d▸h;cases a with
    |stop g=>exact h
    |go q s=>exact i m h (ln2 4890702078108944 rfl H)
    |raise X s=>
     simp only at h⊢;cases e:c.ax.find? (·.on p)with
     |none=>have h:=e▸h;exact h
     |some k=>rw[e]at h;exact i m h (ln2 4890702078108944 rfl H)
def rz{st:St}(h:c.rows[p]?=some r)(H:act r.o (p+1) st=some (.go q ha)):exec c (n+1) p st=exec c n q ha:=by
 dsimp only[exec];refine rX h ?_;simp only[H]
def BL{st:St}(h:c.rows[p]?=some r)(H:act r.o (p+1) st=none):exec c n p st=none:=by
 cases n with
 |zero=>rfl
 |succ n=>dsimp only[exec];refine rX h ?_;simp only[H]
theorem kL.exec(h:kL c t t'):∀{n st r},Mine.exec c n t st=some r->∃m,m<=n/\Mine.exec c m t' st=some r:=by
 induction h with
 |refl=>intro n st r h;exact⟨n,di,h⟩
 |step e E _ i=>
  intro n st r h;cases n with
  |zero=>exact nn h
  |succ n=>
   rw[rz e (rX E rfl)]at h;obtain⟨m,H,a⟩:=i h;exact⟨m,ln2 6945248773392 rfl H,a⟩
def Rq(f b t':Nat)(x:O)(a:Act)(e:Option Act):Prop:=match a with
 | .go q ha=>∃Q,e=some (.go Q ha)/\((x.bo=some q/\Q=t')\/(x.bZ=false/\q=f/\Q=b))
 |a=>e=some a
def Im{o:O}(h:o.q7=true):o.bZ=false/\(∀t,o.cC t=o)/\o.bo=none:=by cases o<;>first|exact ft h|exact⟨rfl,λZ=>rfl,rfl⟩
def Na{st:St}(h:act x f st=some a)(b t':Nat):Rq f b t' x a (act (x.cC t') b st):=by
 cases H:x.q7 with
 |true=>
  obtain⟨c,d,_⟩:=Im H;rw[uA H]at h;obtain⟨S,g,rfl⟩:=Option.map_eq_some_iff.1 h;rw[d];refine rX (uA H) ?_;refine rX g ?_;exact⟨b,rfl,.inr ⟨c,rfl,rfl⟩⟩
 |false=>
  obtain⟨s,l,y,n⟩:=st;cases x with
  |aM t=>obtain rfl:=aj h;exact⟨t',rfl,.inl ⟨rfl,rfl⟩⟩
  |again=>cases s with
   |nil=>exact nn h
   |cons x s=>cases x with
    |v x=>exact nn h
    |way x=>obtain rfl:=aj h;exact rfl
  |leave=>cases s with
   |nil=>exact nn h
   |cons x s=>cases x with
    |way x=>exact nn h
    |v x=>obtain rfl:=aj h;exact rfl
  |br q t=>cases s with
   |nil=>exact nn h
   |cons x s=>cases x with
    |way x=>exact nn h
    |v x=>
     obtain rfl:=aj h;show∃Q,some (Act.go (if x.truth=q then t' else b) ⟨s,l,y,n⟩)=some (.go Q ⟨s,l,y,n⟩)/\((some t=some (if x.truth=q then t else f)/\Q=t')\/(false=false/\(if x.truth=q then t else f)=f/\Q=b));by_cases e:x.truth=q
     ·exact rX (aO e) (rX (aO e) (⟨t',rfl,.inl ⟨rfl,rfl⟩⟩))
     ·exact rX (bc e) (rX (bc e) (⟨b,rfl,.inr ⟨rfl,rfl,rfl⟩⟩))
  |send q=>cases s with
   |nil=>exact nn h
   |cons x s=>cases x with
    |way x=>exact nn h
    |v x=>cases s with
     |nil=>exact nn h
     |cons w s=>
      cases q
      ·obtain rfl:=aj h;exact⟨b,rfl,.inr ⟨rfl,rfl,rfl⟩⟩
      ·obtain rfl:=aj h;exact rfl
  |_=>exact tf H
section
variable{st g_:St}{C:Prop}
def m7(h:exec c n p st=some r)(b:c.rows[p]?=some x)(k:∀m a,n=m+1->act x.o (p+1) st=some a->C):C:=by
 cases n with
 |zero=>exact nn h
 |succ m=>cases H:act x.o (p+1) st with
  |none=>rw[BL b H]at h;exact nn h
  |some a=>exact k m a rfl H
def x_go(h:exec c n p st=some r)(H:c.rows[p]?=some x)(b:act x.o (p+1) st=some (.go q g_))(k:∀m,m<n->exec c m q g_=some r->C):C:=
 m7 h H λm a e Z=>by subst e;rw[rz H b]at h;exact k m (ba m) h
def l0(c:PC)(n p:Nat)(st:St)(r:Res):Prop:=∃m,m<=n/\exec c m p st=some r
def l0.le(h:l0 c m p st r)(l:m<=n):l0 c n p st r:=let⟨a,b,e⟩:=h;⟨a,bt b l,e⟩
def l0.go(h:l0 c m q g_ r)(H:c.rows[p]?=some x)(d:act x.o (p+1) st=some (.go q g_))(l:m<n):l0 c n p st r:=let⟨a,b,e⟩:=h;⟨a+1,bX 0x751167126115010 rfl l b,(rz H d).trans e⟩
def aa2(h:o.isPlain=true)(H:act o f ⟨s,l,b,nt⟩=some a):∃v,act o f ⟨s,l,b,nt⟩=some (.go f ⟨v::s,l,b,nt⟩):=by
 cases o with
 |push v=>exact⟨_,rfl⟩
 |self=>exact⟨_,rfl⟩
 |iQ g=>exact⟨_,rfl⟩
 |aL i=>
  obtain⟨S,c,_⟩:=Option.map_eq_some_iff.1 H;obtain⟨v,d,_⟩:=Option.map_eq_some_iff.1 c;exact⟨v,by show(Option.map _ (l[i]?.map _))=_;exact rX d rfl⟩
 |dup=>cases s with
  |nil=>exact nn H
  |cons v s=>exact⟨v,rfl⟩
 |_=>exact ft h
def Gw{o:O}(h:o.isPlain=true):o.bZ=false:=by cases o<;>first|rfl|exact ft h
def aa3(H:exec c n p st=some r)(d:c.rows[p]?=some x)(f:c.rows[p+1]?=some y)(h:x.o.isPlain=true)(g:y.o=.pop)(k:∀m,m<n->exec c m (p+2) st=some r->C):C:=
 m7 H d λm a e i=>
  let⟨_,hv⟩:=aa2 h i
  x_go H d hv λm j H=>x_go H f (rX g rfl) λl b H=>k l (Nat.lt_trans b j) H
def aa4(h:o.d9=true)(H:act o f ⟨v::s,l,b,nt⟩=some a):∃l' B n,∀s f,act o f ⟨v::s,l,b,nt⟩=some (.go f ⟨s,l',B,n⟩):=by
 cases o with
 |a8 k=>
  by_cases c:k<l.length
  ·exact⟨_,_,_,λs f=>by show Option.map _ (if k<l.length then _ else none)=_;exact rX (aO c) rfl⟩
  ·have H:Option.map (Act.go f) (if k<l.length then some (⟨s,l.set k v,b,nt⟩:St)else none)=some a:=H;rw[bc c]at H;exact nn H
 |gN g=>cases v with
  |v x=>exact⟨_,_,_,λZ Z=>rfl⟩
  |way x=>exact nn H
 |_=>exact ft h
def two(h:act o f st=some a)(H:o=.dup\/o=.swap):∃v s,st.stack=v::s/\(o=.swap->∃w t,s=w::t):=by
 obtain⟨s,l,b,n⟩:=st;cases s with
 |nil=>obtain rfl|rfl:=H<;>exact nn h
 |cons v s=>
  refine⟨v,s,rfl,λe=>?_⟩;subst e;cases s with
  |nil=>exact nn h
  |cons w t=>exact⟨w,t,rfl⟩
def aa5(H:exec c n p st=some r)(f:c.rows[p]?=some x)(g:c.rows[p+1]?=some y)(h:x.o=.swap)(i:y.o=.swap)(k:∀m,m<n->exec c m (p+2) st=some r->C):C:=
 m7 H f λm a e j=>by
  obtain⟨v,s,A,E⟩:=two j (.inr h);obtain⟨w,t,E⟩:=E h;obtain⟨s,l,b,n⟩:=st;obtain rfl:=A.trans (congrArg _ E);exact x_go H f (rX h rfl) λm u H=>x_go H g (rX i rfl) λz d H=>k z (Nat.lt_trans d u) H
def aa6(H:exec c n p st=some r)(g:c.rows[p]?=some x)(i:c.rows[p+1]?=some y)(h:x.o=.dup)(j:y.o=.swap)(k:∀m g_,m<n->(∀f,act .dup f st=some (.go f g_))->exec c m (p+2) g_=some r->C):C:=
 m7 H g λm a e t=>by
  obtain⟨v,s,E,_⟩:=two t (.inl h);obtain⟨s,l,b,n⟩:=st;subst E;exact x_go H g (rX h rfl) λm u H=>x_go H i (rX j rfl) λw d H=>k w _ (Nat.lt_trans d u) (λZ=>rfl) H
def aa7(H:exec c n p st=some r)(t:c.rows[p]?=some x)(u:c.rows[p+1]?=some y)(w:c.rows[p+2]?=some z)(h:x.o=.dup)(A:y.o.d9=true)(B:z.o=.pop)(k:∀m g_,m<n->(∀f,act y.o f st=some (.go f g_))->exec c m (p+3) g_=some r->C):C:=
 m7 H t λm a e g=>by
  obtain⟨v,s,G,_⟩:=two g (.inl h);obtain⟨s,l,b,n⟩:=st;subst G
  exact x_go H t (rX h rfl) λm D H=>m7 H u λL a e g=>by
   obtain⟨l',Q,N,d⟩:=aa4 A g;exact x_go H u (d _ _) λP i H=>x_go H w (rX B rfl) λE j H=>k E _ (gf 0x8512781267126511 rfl D i j) (d _) H
abbrev BrV(st g_:St)(v:Vl):Prop:=(∀k t f,act (.br k t) f st=some (.go (if v.truth=k then t else f) g_))/\∀f,act .pop f st=some (.go f g_)
def aa8(h:act (.br k t) f st=some a):∃v g_,BrV st g_ v:=by
 obtain⟨s,l,b,n⟩:=st;cases s with
 |nil=>exact nn h
 |cons w s=>cases w with
  |way w=>exact nn h
  |v w=>exact⟨w,⟨s,l,b,n⟩,λZ Z Z=>rfl,λZ=>rfl⟩
def S'(H:exec c n p st=some r)(d:c.rows[p]?=some x)(h:x.o=.br b t)(k:∀m v g_,m<n->BrV st g_ v->exec c m (if v.truth=b then t else p+1) g_=some r->C):C:=
 m7 H d λm a e f=>by
  rw[h]at f;obtain⟨v,g_,g⟩:=aa8 f;exact x_go H d (rX h (g.1 b t (p+1))) λm i H=>k m v g_ i g H
def uN(H:exec c n p st=some r)(a:c.rows[p]?=some x)(h:x.o=.aM t)(k:∀m,m<n->exec c m t st=some r->C):C:=x_go H a (rX h rfl) k
end
section
variable{st:St}
def Ta(c:PC)(o:List (Option R))(S:Nat->Prop)(n:Nat):Prop:=∀m,m<n->∀p st r,S p->Reach c p->exec c m p st=some r->l0 (ay c o) m (aK o p) st r
structure Here(c:PC)(o:List (Option R))(K:Nat)(S:Nat->Prop)(n p:Nat)(st:St)(r:Res):Prop where
 ok:Ok c
 T:jK c o K S
 ih:Ta c o S n
 pM:Reach c p
 he:exec c n p st=some r
def Here.to(h:Here c o K S n p st r){m q g_}(H:m<n)(a:S q)(b:Reach c q)(d:exec c m q g_=some r):l0 (ay c o) m (aK o q) g_ r:=h.ih m H q g_ r a b d
def Here.h7(h:Here c o K S n p st r)(H:marked c q=true)(a:Reach c q):S q:=h.T.h7 q H (a.lt h.ok)
def Rt(h:Here c o K S n p st r)(e:c.rows[p]?=some x)(f:c.rows[p+1]?=some y)(b:o[p]?=some none)(d:o[p+1]?=some none)(a:x.o.isPlain=true)(H:y.o=.pop)(i:S (p+2)):l0 (ay c o) n (aK o p) st r:=
 aa3 h.he e f a H λm g j=>by
  have:=h.to g i ((h.pM.eR e (Gw a)).eR f (rX H rfl)) j;rw[cG d,cG b]at this;exact this.le (a_ g)
def Ru(h:Here c o K S n p st r)(d:c.rows[p]?=some x)(e:c.rows[p+1]?=some y)(a:o[p]?=some none)(b:o[p+1]?=some none)(f:x.o=.swap)(H:y.o=.swap)(i:S (p+2)):l0 (ay c o) n (aK o p) st r:=
 aa5 h.he d e f H λm g j=>by
  have:=h.to g i ((h.pM.eR d (rX f rfl)).eR e (rX H rfl)) j;rw[cG b,cG a]at this;exact this.le (a_ g)
def Rv(h:Here c o K S n p st r)(e:c.rows[p]?=some x)(f:c.rows[p+1]?=some y)(H:o[p]?=some (some x))(b:o[p+1]?=some none)(d:x.o=.dup)(a:y.o=.swap)(i:S (p+2)):l0 (ay c o) n (aK o p) st r:=
 aa6 h.he e f d a λm g_ g j k=>by
  have:=h.to g i ((h.pM.eR e (rX d rfl)).eR f (rX a rfl)) k;rw[cG b,aP H]at this;refine this.go (bT H) ?_ g;show act (x.o.cC _) _ _=_;exact rX d (j _)
def Ea{o:O}(h:o.d9=true):o.bZ=false/\∀t,o.cC t=o:=by cases o<;>first|exact⟨rfl,λZ=>rfl⟩|exact ft h
def Rw(h:Here c o K S n p st r)(f:c.rows[p]?=some x)(g:c.rows[p+1]?=some y)(i:c.rows[p+2]?=some z)(a:o[p]?=some none)(b:o[p+1]?=some (some y))(e:o[p+2]?=some none)(j:x.o=.dup)(d:y.o.d9=true)(H:z.o=.pop)(l:S (p+3)):l0 (ay c o) n (aK o p) st r:=
 aa7 h.he f g i j d H λm g_ k s t=>by
  obtain⟨E,u⟩:=Ea d;have:=h.to k l (((h.pM.eR f (rX j rfl)).eR g E).eR i (rX H rfl)) t;rw[cG e,aP b,cG a]at this;refine this.go (by have:=bT (c:=c) b;rwa[cG a]at this) ?_ k;show act (y.o.cC _) _ _=_;rw[u];exact s _
def Tb{C:Prop}(h:exec c n p st=some r)(g:c.rows[p]?=some x)(H:x.o=.push v)(i:∀m s,m<n->exec c m (p+1) s=some r->∃e,e<=m/\exec c e q s=some r)(j:c.rows[q]?=some y)(a:y.o=.br b t)(k:∀m,m<n->exec c m (if v.truth=b then t else q+1) st=some r->C):C:=
 x_go h g (rX H rfl) λm f h=>by
  obtain⟨e,u,h⟩:=i m _ f h;exact x_go h j (rX a rfl) λl d h=>k l (gf 0x8512781167126511 rfl f u d) h
def Here.jmp(h:Here c o K S n p st r)(b:m<n)(d:S t)(e:Reach c t)(H:o[p]?=some none)(a:o[p+1]?=some (some ⟨.aM t,g2⟩))(f:exec c m t st=some r):l0 (ay c o) n (aK o p) st r:=by
 have:=h.to b d e f;exact this.go (by have:=bT (c:=c) a;rwa[cG H]at this) rfl b
def Nb(h:Here c o K S n p st r)(l:c.rows[p]?=some x)(d:x.o=.push v)(g:c.rows[p+1]?=some y)(H:y.o=.br k t)(e:o[p]?=some none)(a:o[p+1]?=some (bif v.truth==k then some ⟨.aM t,g2⟩else none))(s:S (p+2)):l0 (ay c o) n (aK o p) st r:=
 Tb h.he l d (λm Z Z b=>⟨m,Nat.le_refl m,b⟩) g H λm j b=>by
  have f:=h.pM.eR l (rX d rfl);by_cases i:v.truth=k
  ·rw[aO i]at b;rw[beq_iff_eq.2 i]at a;have f:=f.bo g (rX H rfl);exact h.jmp j (h.h7 (dn g (rX H rfl)) f) f e a b
  ·rw[bc i]at b;rw[beq_eq_false_iff_ne.2 i]at a;have:=h.to j s (f.eR g (rX H rfl)) b;rw[cG a,cG e]at this;exact this.le (a_ j)
def Rx(h:Here c o K S n p st r)(a:c.rows[p]?=some x)(H:x.o=.aM (p+1))(d:o[p]?=some none)(e:S (p+1)):l0 (ay c o) n (aK o p) st r:=
 uN h.he a H λm b f=>by
  have:=h.to b e (h.pM.bo a (rX H rfl)) f;rw[cG d]at this;exact this.le (a_ b)
def Ry(h:Here c o K S n p st r)(a:c.rows[p]?=some x)(H:x.o=.br b (p+1))(d:o[p]?=some (some ⟨.pop,g⟩))(i:S (p+1)):l0 (ay c o) n (aK o p) st r:=
 S' h.he a H λm v g_ e j f=>by
  rw[ite_self]at f;have:=h.to e i (h.pM.bo a (rX H rfl)) f;rw[aP d]at this;exact this.go (bT d) (j.2 _) e
def Rz(h:Here c o K S n p st r)(j:c.rows[p]?=some x)(H:x.o=.br b (p+2))(k:c.rows[p+1]?=some y)(a:y.o=.aM l)(g:o[p]?=some (some ⟨.br (!b) l,g2⟩))(t:o[p+1]?=some none)(w:S (p+2)):l0 (ay c o) n (aK o p) st r:=
 S' h.he j H λm v g_ s u f=>by
  have d:(ay c o).rows[aK o p]?=some ⟨.br (!b) (aK o l),g2⟩:=bT g;by_cases e:v.truth=b
  ·rw[aO e]at f;have:=h.to s w (h.pM.bo j (rX H rfl)) f;rw[cG t,aP g]at this;refine this.go d ((u.1 _ _ _).trans ?_) s;rw[bc];refine rX e ?_;cases b<;>exact λh=>nomatch h
  ·rw[bc e]at f;refine uN f k a λz i f=>?_;have:=h.to (Nat.lt_trans i s) (h.h7 (dn k (rX a rfl)) ((h.pM.eR j (rX H rfl)).bo k (rX a rfl))) ((h.pM.eR j (rX H rfl)).bo k (rX a rfl)) f;refine this.go d ((u.1 _ _ _).trans ?_) (Nat.lt_trans i s);rw[aO];cases b<;>cases E:v.truth<;>first|rfl|exact ak E e
def jK.Gx(T:jK c o K S)(f:K=1)(g:S t)(d:c.rows[t]?=some x)(i:x.o= .br k l):S (t+1):=by
 obtain⟨w,j,m,_⟩:=T.qW t g (cu d);have b:∀{y:R},c.rows[t]?=some y->y.o.kd=11:=λh=>by obtain rfl:=aj (ag d h);exact rX i rfl
 have no:∀{y:R} {z:O},c.rows[t]?=some y->y.o=z->z.kd≠11->S (t+1):=λh e n=>ak (e▸b h) n;cases j with
 |pp a _ _ _ H=>have H:aw _ _=true:=H;rw[b a]at H;exact ft H
 |cp a _ _ _ _ _ p=>exact no a p (by decide)
 |ss a _ _ _ H=>exact no a H (by decide)
 |ds a _ _ _ H=>exact no a H (by decide)
 |Rp a _ H=>exact no a H (λh=>nomatch h)
 |BJ _ a _ _ H=>exact no a H (λh=>nomatch h)
 |tu h=>exact ak f h
 |_=>exact m
def Nc(h:Here c o K S n p st r)(B:K=1)(A:c.rows[p]?=some x)(f:x.o=.push v)(s:c.rows[p+1]?=some y)(d:y.o=.aM t)(g:c.rows[t]?=some z)(H:z.o=.br k l)(i:o[p]?=some none)(a:o[p+1]?=some (some ⟨.aM (bif v.truth==k then l else t+1),g2⟩)):l0 (ay c o) n (aK o p) st r:=
 Tb h.he A f (λm Z u b=>uN b s d λD w b=>⟨D,a_ w,b⟩) g H λm u b=>by
  have e:=(h.pM.eR A (rX f rfl)).bo s (rX d rfl);by_cases j:v.truth=k
  ·rw[aO j]at b;rw[beq_iff_eq.2 j]at a;have e:=e.bo g (rX H rfl);exact h.jmp u (h.h7 (dn g (rX H rfl)) e) e i a b
  ·have b:=(bc j)▸b;rw[beq_eq_false_iff_ne.2 j]at a;exact h.jmp u (h.T.Gx B (h.h7 (dn s (rX d rfl)) e) g H) (e.eR g (rX H rfl)) i a b
def after(c:PC)(n p:Nat)(a:Act):Option Res:=match a with
 | .stop res=>some res
 | .go q ha=>exec c n q ha
 | .raise v ha=>match c.ax.find? (·.on p)with
  |none=>some (ha.ej,nJ,v.rep)
  |some k=>exec c n k.target ⟨[.way v],ha.slots,ha.pI,ha.ej⟩
def jL(h:c.rows[p]?=some x)(H:act x.o (p+1) st=some a):exec c (n+1) p st=after c n p a:=by
 dsimp only[exec];refine rX h ?_;dsimp only;refine rX H ?_;cases a<;>rfl
def BM(h:Here c o K S n p st r)(f:c.rows[p]?=some x)(b:(ay c o).rows[aK o p]?=some (x.cC (aK o t')))(u:o[p]?=some (some y))(D:S (p+1))(j:∀t,x.o.bo=some t->kL c t t'):l0 (ay c o) n (aK o p) st r:=
 m7 h.he f λm a e w=>by
  refine I λl=>?_;have d:m<n:=by exact bx e.symm
  have H:=h.he;have A:=Na w (aK o p+1) (aK o t');have H:=(jL f w)▸e▸H;cases a with
  |stop N=>exact l (⟨m+1,d,(jL b A).trans H⟩)
  |go q g_=>
   obtain⟨Q,z,⟨s,rfl⟩|⟨s,rfl,rfl⟩⟩:=A
   ·have j:=j q s;have B:=h.pM.bo f s;obtain⟨G,L,g⟩:=j.exec H;have:=h.to (iC L d) (h.h7 (j.marked (dn f s)) (j.reach B)) (j.reach B) g;exact l (this.go b z (iC L d))
   ·have:=h.to d D (h.pM.eR f s) H;rw[aP u]at this;exact l (this.go b z d)
  |raise v g_=>
   have E:=jL (n:=m) b A;unfold after at E H;dsimp only at E H;rw[show(ay c o).ax=c.ax.filterMap (d8 o) from rfl,BI u]at E;cases i:c.ax.find? (·.on p)with
   |none=>rw[i]at E H;exact l (⟨m+1,d,E.trans H⟩)
   |some k=>
    rw[i]at E H;obtain⟨G,L,g⟩:=h.to d (h.h7 (fW (List.mem_of_find?_eq_some i)) (h.pM.hand f (List.mem_of_find?_eq_some i) (List.find?_some (p:=λx:Ct=>x.on p) i))) (h.pM.hand f (List.mem_of_find?_eq_some i) (List.find?_some (p:=λx:Ct=>x.on p) i)) H;exact l (⟨m+1,d,E.trans (qA m g L)⟩)
def Nd(h:act .leave f st=some a):∃r,a=.stop r/\∀f,act .leave f st=some (.stop r):=by
 obtain⟨s,l,b,n⟩:=st;cases s with
 |nil=>exact nn h
 |cons v s=>cases v with
  |way v=>exact nn h
  |v v=>obtain rfl:=aj h;exact⟨_,rfl,λZ=>rfl⟩
def Eb(h:Here c o K S n p st r)(j:c.rows[p]?=some x)(b:x.o=.aM t)(k:kL c t t')(g:c.rows[t']?=some y)(d:y.o=.leave)(l:o[p]?=some (some ⟨.leave,g'⟩)):l0 (ay c o) n (aK o p) st r:=
 uN h.he j b λm s H=>by
  refine I λu=>?_;obtain⟨z,L,H⟩:=k.exec H;refine m7 H g λv a e i=>?_;obtain⟨w,rfl,f⟩:=Nd (d▸i);rw[e,jL g i]at H;exact u (⟨v+1,gf 0x1150814781167126115010 rfl s L e,(jL (bT l) (f _)).trans H⟩)
def BN{r:R}:(r.cC a).cC b=r.cC b:=by obtain⟨o,g⟩:=r;cases o<;>rfl
def Nf(h:Here c o K S n p st r)(B:j_ c o K p w)(i:S (p+w)):l0 (ay c o) n (aK o p) st r:=by
 refine I λk=>?_;cases B with
 |keep b f=>exact k (BM h b (bT f) f i λt m=>rX m (.refl _))
 | @oF x t t' b m s f=>
  refine k (BM (t':=t') h b ((bT f).trans (congrArg some ?_)) f i λT D=>?_)
  ·show(x.cC t').cC (aK o ((x.o.cC t').bo.getD 0))=_;exact rX BN (rX (dm m) rfl)
  ·obtain rfl:=aj (ag m D);exact s
 |leave b d s E u f=>exact k (Eb h b d s E u f)
 |pp b e H a j l=>exact k (Rt h b e H a j l i)
 |cp b e v H a y G L j=>exact k (Rw h b e v H a y G L j i)
 |ss b e H a j l=>exact k (Ru h b e H a j l i)
 |ds b e H a j l=>exact k (Rv h b e H a j l i)
 |Rp b e d g H a=>exact k (Nb h b d e g H a i)
 |BJ A b e v d g z H a=>exact k (Nc h A b d e g v z H a)
 |tu A b e d g H a=>exact k (Rz h b d e g H a i)
 |sj b d f=>exact k (Rx h b d f i)
 |sb b d f=>exact k (Ry h b d f i)
 |dead _ b N=>exact ak h.pM N
def sim(f:Ok c)(T:jK c o K S):∀n p st r,S p->Reach c p->exec c n p st=some r->exec (ay c o) n (aK o p) st=some r:=by
 have d:∀n,Ta c o S n:=λn=>by
  induction n with
  |zero=>intro m h;exact ak h (Nat.not_lt_zero m)
  |succ n j=>
   intro m h p st r e a H;obtain⟨w,i,b,_⟩:=T.qW p e (a.lt f);exact Nf ⟨f,T,λk g=>j k (bX 0x751211607126511 rfl h g),a,H⟩ i b
 intro n p st r e a H;obtain⟨m,h,H⟩:=d (n+1) n (ba n) p st r e a H;exact qA n H h
end
abbrev Vd:=Nat->List R->List R->List (Option R)->Prop
inductive cW(V:Vd):Nat->List R->List (Option R)->List Nat->Prop
 |nil (p):cW V p [] [] [p]
 |cons (p a l o l' bd):V p a l o->a≠[]->o.length=a.length->cW V (p+a.length) l l' bd->cW V p (a++l) (o++l') (p::bd)
inductive V1(f:Nat->R->Option R)(p:Nat):List R->List R->List (Option R)->Prop
 |mk (r l):V1 f p [r] l [f p r]
inductive V2(w:W2)(p:Nat):List R->List R->List (Option R)->Prop
 |keep (r l):(∀s∈l.head?,w p r s=none)->V2 w p [r] l [some r]
 |dC (r s l x):w p r s=some x->V2 w p [r,s] l [x.1,x.2]
def jl(m:Nat->Bool)(p:Nat)(r s z:R):Bool:=r.o.fB&&(s.o.d9&&(z.o.gn&&(!m (p+1)&&!m (p+2))))
inductive V3(m:Nat->Bool)(p:Nat):List R->List R->List (Option R)->Prop
 |keep (r l):(∀s z t,l=s::z::t->jl m p r s z=false)->V3 m p [r] l [some r]
 |dC (r s z l):jl m p r s z=true->V3 m p [r,s,z] l [none,some s,none]
def cW.one(h:V p [r] l [x])(k:cW V (p+1) l o bd):cW V p (r::l) (x::o) (p::bd):=.cons p [r] l [x] o bd h (aN _ _) rfl k
def cW.two(h:V p [r,s] l [x,y])(k:cW V (p+2) l o bd):cW V p (r::s::l) (x::y::o) (p::bd):=.cons p [r,s] l [x,y] o bd h (aN _ _) rfl k
def cW.three(h:V p [r,s,z] l [x,y,u])(k:cW V (p+3) l o bd):cW V p (r::s::z::l) (x::y::u::o) (p::bd):=.cons p [r,s,z] l [x,y,u] o bd h (aN _ _) rfl k
def cW.len(h:cW V p l o b):o.length=l.length:=by
 induction h with
 |nil=>rfl
 |cons p a l o l' b _ _ e _ i=>exact rX c9 (rX c9 (rX e (rX i rfl)))
def BO(f:Nat->R->Option R):∀(l:List R) (p:Nat),∃b,cW (V1 f) p l ((l.zipIdx p).map λx=>f x.2 x.1) b:=by
 intro m;induction m with
 |nil=>exact λp=>⟨_,.nil p⟩
 |cons r l i=>exact λp=>let⟨b,h⟩:=i (p+1);⟨_,.one (.mk r l) h⟩
noncomputable def oG(f:List (Option R)->Nat->List (Option R))(o:List (Option R))(i k:Nat):List (Option R):=(List.range' i k).foldl f o
def BP:walked f o n=oG f o 0 n:=by unfold walked oG;exact rX range_eq_range' rfl
def j'(e:f o i=o'):oG f o i (k+1)=oG f o' (i+1) k:=by unfold oG;exact rX List.range'_succ (rX foldl_cons (rX e rfl))
def at0{x:Option R}:(a++x::b)[a.length]?=some x:=by simp
def RA{y:Option R}:(a++x::y::b)[a.length+1]?=some y:=by simp[List.getElem?_append_right]
def at2{z:Option R}:(a++x::y::z::b)[a.length+2]?=some z:=by simp[List.getElem?_append_right]
def Tc:(a++x::b).set a.length z=a++z::b:=by simp
def aa9{z:Option R}:(a++x::y::b).set (a.length+1) z=a++x::z::b:=by refine rX (set_append_right _ _ (ar a.length 1)) ?_;simp
def aba{z:Option R}:(a++x::y::u::b).set (a.length+2) z=a++x::y::z::b:=by refine rX (set_append_right _ _ (ar a.length 2)) ?_;simp
def jm:a++x::b=(a++[x])++b:=by rw[append_assoc];rfl
def wh:(a++[x]).length=a.length+1:=c9
theorem Ng(f:∀p r s a x,w p r s=some a->a.2=some x->∀q y,w q x y=none):∀(n:Nat) (l:List R) (a:List (Option R)),l.length<=n->∃o B,oG (jc w) (a++l.map some) a.length (l.length-1)=a++o/\cW (V2 w) a.length l o B
 |_,[],a,_=>⟨_,_,rfl,.nil _⟩
 |_,[r],a,_=>⟨_,_,rfl,.one (.keep r [] λZ h=>nomatch h) (.nil _)⟩
 |n+1,r::s::l,a,hl=>by
  refine I λk=>?_;have g:jc w (a++some r::some s::l.map some) a.length=iq w (a++some r::some s::l.map some) a.length (some r) (some s):=kO at0 RA;cases H:w a.length r s with
  |none=>
   obtain⟨o,B,c,d⟩:=Ng f n (s::l) (a++[some r]) (Nat.le_of_succ_le_succ hl);rw[wh]at c d;refine k (⟨some r::o,_,(j' (g.trans (by rw[iq,H]))).trans ?_,.one (.keep r _ λS h=>by obtain rfl:=aj h;exact H) d⟩);exact rX jm (rX (jm (b:=o)) (c))
  |some x=>
   have e:jc w (a++some r::some s::l.map some) a.length=a++x.1::x.2::l.map some:=g.trans (by rw[iq];refine rX H ?_;dsimp only;exact rX Tc (rX aa9 rfl));cases l with
   |nil=>exact k (⟨_,_,j' e,.two (.dC r s [] x H) (.nil _)⟩)
   |cons u l=>
    obtain⟨o,B,c,d⟩:=Ng f n (u::l) (a++[x.1]++[x.2]) (by simp only[length_cons]at hl⊢;exact i7 (aE _) (Nat.le_of_lt_succ hl));rw[wh,wh]at c d;refine k (⟨x.1::x.2::o,_,(j' e).trans ((j' (o':=a++x.1::x.2::some u::l.map some) ?_).trans ?_),.two (.dC r s _ x H) d⟩)
    ·refine(kO RA at2).trans ?_;cases E:x.2 with
     |none=>rfl
     |some y=>rw[iq,f _ _ _ _ y H E]
    ·exact rX jm (rX jm (rX (jm (b:=x.2::o)) (rX (jm (b:=o)) (c))))
def c8(h:∀p r s a x,w p r s=some a->a.2=some x->∀q y,w q x y=none):∃o b,h6 w c=ay c o/\cW (V2 w) 0 c.rows o b:=by
 obtain⟨o,b,H,d⟩:=Ng h c.rows.length c.rows [] di;exact⟨o,b,by unfold h6;refine rX BP ?_;exact congrArg _ H,d⟩
def yj(h:o[p]?=some x)(H:x.any (λr=>r.o.fB)=false):jf m o p=o:=by
 unfold jf rR;rw[lb h];refine rX H ?_;rfl
def Ec{o:O}(h:o.d9=true):o.fB=false:=by cases o<;>first|rfl|exact ft h
def Io(h:jl m p r s z=true):s.o.d9=true:=(aA (aA h).2).1
theorem Nh(m:Nat->Bool):∀(n:Nat) (l:List R) (a:List (Option R)),l.length<=n->∃o B,oG (jf m) (a++l.map some) a.length (l.length-2)=a++o/\cW (V3 m) a.length l o B
 |_,[],a,_=>⟨_,_,rfl,.nil _⟩
 |_,[r],a,_=>⟨_,_,rfl,.one (.keep r [] λZ Z Z h=>nomatch h) (.nil _)⟩
 |_,[r,s],a,_=>⟨_,_,rfl,.one (.keep r [s] λZ Z Z h=>nomatch h) (.one (.keep s [] λZ Z Z h=>nomatch h) (.nil _))⟩
 |n+1,r::s::z::l,a,hl=>by
  have f:jf m (a++some r::some s::some z::l.map some) a.length=bif jl m a.length r s z then((a++some r::some s::some z::l.map some).set a.length none).set (a.length+2) none else a++some r::some s::some z::l.map some:=by
   unfold jf rR;rw[lb at0,lb RA,lb at2];rfl
  cases d:jl m a.length r s z with
  |false=>
   obtain⟨o,B,H,c⟩:=Nh m n (s::z::l) (a++[some r]) (Nat.le_of_succ_le_succ hl);rw[wh]at H c;refine⟨some r::o,_,(j' (f.trans (rX d rfl))).trans ?_,.one (.keep r _ λS g t h=>by cases h;exact d) c⟩;exact rX jm (rX (jm (b:=o)) (H))
  |true=>
   have e:=f.trans (by refine rX d ?_;exact rX Tc (rX aba rfl));have k:jf m (a++none::some s::none::l.map some) (a.length+1)=a++none::some s::none::l.map some:=yj RA (Ec (Io d));have k2:jf m (a++none::some s::none::l.map some) (a.length+2)=a++none::some s::none::l.map some:=yj at2 rfl
   have fin:∃o B,oG (jf m) (a++none::some s::none::l.map some) (a.length+3) (l.length-2)=a++none::some s::none::o/\cW (V3 m) (a.length+3) l o B:=by
    obtain⟨o,B,H,c⟩:=Nh m n l (a++[none]++[some s]++[none]) (by simp only[length_cons]at hl;exact bt (ar _ _) (Nat.le_of_lt_succ hl));rw[wh,wh,wh]at H c;exact⟨o,B,by refine rX jm (rX jm (rX jm (rX (jm (b:=some s::none::o)) (rX (jm (b:=none::o)) (rX (jm (b:=o)) ?_)))));exact H,c⟩
   obtain⟨o,B,H,c⟩:=fin;refine⟨none::some s::none::o,_,(j' e).trans ?_,.three (.dC r s z l d) c⟩;cases l with
   |nil=>exact H
   |cons u l=>
    refine(j' k).trans ?_;cases l with
    |nil=>exact H
    |cons v l=>exact(j' k2).trans H
def gw(c:PC):∃o b,dU c=ay c o/\cW (V3 (marked c)) 0 c.rows o b:=by
 obtain⟨o,b,h,H⟩:=Nh (marked c) c.rows.length c.rows [] di;exact⟨o,b,by unfold dU;refine rX BP ?_;exact congrArg _ h,H⟩
def cW.lo(h:cW V p l o b):p∈b/\p+l.length∈b/\∀q∈b,p<=q/\q<=p+l.length:=by
 induction h with
 |nil p=>exact⟨lB rfl,lB rfl,λq H=>rX (d5 H) (⟨di,di⟩)⟩
 |cons p a l o l' b _ _ _ _ i=>
  refine rX c9 ?_;refine⟨eE,fg (by rw[<-bS];exact i.2.1),λq H=>(hH H).elim (λe=>⟨ln2 1444177168 rfl e,gf 0x651387060510 rfl e⟩) λH=>?_⟩;have:=i.2.2 q H;exact⟨bX 443724948752 rfl this.1,gf 0x8760051187060510 rfl this.2⟩
structure Y_(V:Vd)(rs:List R)(o:List (Option R))(bd:List Nat)(q:Nat)(a l:List R)(o':List (Option R)):Prop where
 v:V q a l o'
 r:rs.drop q=a++l
 ne:a≠[]
 ln:o'.length=a.length
 o:∃o2,o.drop q=o'++o2
 nx:q+a.length∈bd
 no:∀i,0<i->i<a.length->q+i∉bd
def gd{b:List α}(h:k=a.length):(a++b).drop k=b:=by subst h;exact drop_left
theorem cW.at(h:cW V p l o B):∀{rs:List R} {os:List (Option R)} {C:Prop},rs.drop p=l->os.drop p=o->∀q∈B,q<p+l.length->(∀a l' o',Y_ V rs os B q a l' o'->C)->C:=by
 induction h with
 |nil p=>intro rs os C _ _ q b h _;rw[d5 b]at h;exact ak h (Nat.lt_irrefl _)
 |cons p a l o l' B m n L s t=>
  intro rs os C e f q b g k;have lo:=s.lo;obtain rfl|b:=hH b
  ·refine k a l o ⟨m,e,n,L,⟨l',f⟩,fg lo.1,λi c d H=>?_⟩;obtain H|H:=hH H
   ·exact gY (ln2 0x65601350112011110 rfl c H)
   ·have:=(lo.2.2 _ H).1;exact gY (bX 0x570670116512011110 rfl d this)
  ·refine t (rX (drop_drop).symm (rX e (rX (gd rfl) rfl))) (rX (drop_drop).symm (rX f (rX (gd L.symm) rfl))) q b (by rw[c9]at g;exact gf 0x8706051287600511 rfl g) λA j o' w=>k A j o' ⟨w.v,w.r,w.ne,w.ln,w.o,fg w.nx,λi c d H=>?_⟩;obtain H|H:=hH H
   ·have:=(lo.2.2 _ b).1;exact gY (gf 0x68701175601350112011110 rfl c H this)
   ·exact w.no i c d H
def cW.cover(h:cW V p l o B):p<=q->q<p+l.length->q∈B\/∃Q a l' o' i,V Q a l' o'/\q=Q+i/\0<i/\i<a.length:=by
 induction h with
 |nil p=>intro H b;exact ak b (Nat.not_lt.2 H)
 |cons p a l o l' B d n L g f=>
  intro H b;obtain e|h:=Nat.eq_or_lt_of_le H
  ·exact rX e (.inl eE)
  ·obtain c|c:=Nat.lt_or_ge q (p+a.length)
   ·exact .inr ⟨p,a,l,o,q-p,d,Eq.symm (Nat.add_sub_of_le H),Nat.zero_lt_sub_of_lt h,Nat.sub_lt_left_of_lt_add H c⟩
   ·exact(f c (by rw[c9]at b;exact gf 0x8706051287600511 rfl b)).imp_left (fg)
def cW.h7(h:cW V 0 c.rows o bd)(H:∀q a l o',V q a l o'->∀i,0<i->i<a.length->marked c (q+i)=false){q}(b:marked c q=true)(d:q<c.rows.length):q∈bd:=by
 obtain h|⟨Q,a,l',o',i,e,rfl,f,g⟩:=h.cover aZ (by rw[aD];exact d)
 ·exact h
 ·exact tf (ag b (H _ _ _ _ e i f g))
def cW.Ed(h:cW V 0 c.rows o bd)(H:∀q a l o',V q a l o'->∀i,0<i->i<a.length->marked c (q+i)=false)(b:∀q a l o',V q a l o'->c.rows.drop q=a++l->(∃d,o.drop q=o'++d)->j_ c o K q a.length):jK c o K (·∈bd) where
 zero:=h.lo.1
 qW q hq hl:=h.at rfl rfl q hq (by rw[aD];exact hl) λa l o' w=>⟨a.length,b _ _ _ _ w.v w.r w.o,w.nx,by have:=(h.lo.2.2 _ w.nx).2;exact bX 0x701065011765010 rfl this,w.no⟩
 le q hq:=by have:=(h.lo.2.2 _ hq).2;exact ln2 6601449760016 rfl this
 h7 q hq hl:=h.h7 H hq hl
 len:=h.len
def dg{l:List α}{x:α}(h:l.drop p=x::l2):l[p]?=some x/\l.drop (p+1)=l2:=by
 refine⟨?_,?_⟩
 ·have:=List.getElem?_drop (xs:=l) (i:=p) (j:=0);rw[h]at this;exact this.symm
 ·exact rX (drop_drop).symm (rX h rfl)
def Ee(h:(!b)=true):b=false:=by cases b;rfl;exact ft h
def zG{o:O}(h:o.gn=true):o=.pop:=by cases o<;>first|rfl|exact ft h
def Ef{o:O}(h:o.cY=true):o=.swap:=by cases o<;>first|rfl|exact ft h
def Eg{o:O}(h:o.fB=true):o=.dup:=by cases o<;>first|rfl|exact ft h
structure WQ(m:Nat->Bool)(p:Nat)(r s:R)(a:Option R×Option R):Prop where
 r:r.o.isPlain=true
 s:s.o=.pop
 m:m (p+1)=false
 a:a=(none,none)
def dG(h:j0 m p r s=some a):WQ m p r s a:=by
 unfold j0 at h;cases e:r.o.isPlain<;>have h:=e▸h
 ·exact nn h
 cases E:s.o.gn<;>rw[E]at h
 ·exact nn h
 cases b:m (p+1)<;>rw[b]at h
 ·obtain rfl:=aj h;exact⟨e,zG E,b,rfl⟩
 ·exact nn h
structure WW(m:Nat->Bool)(p:Nat)(r s:R)(a:Option R×Option R):Prop where
 s:s.o=.swap
 m:m (p+1)=false
 a:(r.o=.swap/\a=(none,none))\/(r.o=.dup/\a=(some r,none))
def dH(h:ku m p r s=some a):WW m p r s a:=by
 unfold ku at h;cases e:s.o.cY<;>rw[e]at h
 ·exact nn h
 cases E:m (p+1)<;>rw[E]at h
 ·cases b:r.o.cY<;>rw[b]at h
  ·cases c:r.o.fB<;>rw[c]at h
   ·exact nn h
   ·obtain rfl:=aj h;exact⟨Ef e,E,.inr ⟨Eg c,rfl⟩⟩
  ·obtain rfl:=aj h;exact⟨Ef e,E,.inl ⟨Ef b,rfl⟩⟩
 ·exact nn h
structure WU(m:Nat->Bool)(p:Nat)(r s:R)(a:Option R×Option R)(b:Bool)(l:Nat):Prop where
 br:r.o=.br b (p+2)
 s:s.o=.aM l
 m:m (p+1)=false
 a:a=(some ⟨.br (!b) l,r.g⟩,none)
def cJ(h:fy m p r s=some a):∃b l,WU m p r s a b l:=by
 refine I λk=>?_;unfold fy at h;cases e:r.o.bq with
 |none=>have h:=e▸h;exact nn h
 |some x=>cases E:s.o.jt with
  |none=>have h:=E▸e▸h;exact nn h
  |some l=>
   have h:=E▸e▸h;dsimp only at h;cases c:x.2==p+2<;>rw[c]at h
   ·exact nn h
   cases d:m (p+1)<;>rw[d]at h
   ·obtain rfl:=aj h;exact k (⟨x.1,l,beq_iff_eq.1 c▸gz e,ip E,d,rfl⟩)
   ·exact nn h
structure WK(c:PC)(m:Nat->Bool)(p:Nat)(r s:R)(a:Option R×Option R)(v:Vl):Prop where
 r:r.o=.push v
 m:m (p+1)=false
 a:(∃k t,s.o=.br k t/\a=(none,bif v.truth==k then some ⟨.aM t,s.g⟩else none))\/∃t z k l,s.o=.aM t/\c.rows[t]?=some z/\z.o=.br k l/\a=(none,some ⟨.aM (bif v.truth==k then l else t+1),s.g⟩)
def fK(h:dy c m p r s=some a):∃v,WK c m p r s a v:=by
 refine I λk=>?_;unfold dy at h;cases e:r.o.pv with
 |none=>have h:=e▸h;exact nn h
 |some v=>
  rw[e]at h;cases b:m (p+1)<;>rw[b]at h<;>dsimp only at h
  ·cases E:s.o.bq with
   |some x=>rw[E]at h;obtain rfl:=aj h;exact k (⟨v,vn e,b,.inl ⟨x.1,x.2,gz E,rfl⟩⟩)
   |none=>
    cases d:s.o.jt with
    |none=>rw[E,d]at h;exact nn h
    |some t=>
     rw[E,d]at h;dsimp only at h;cases f:(c.rows[t]?).bind λq=>q.o.bq with
     |none=>have h:=f▸h;exact nn h
     |some x=>
      rw[f]at h;obtain rfl:=aj h;obtain⟨z,H,g⟩:=Option.bind_eq_some_iff.1 f;exact k (⟨v,vn e,b,.inr ⟨t,z,x.1,x.2,ip d,H,gz g,rfl⟩⟩)
  ·exact nn h
def BQ:∀p r s a x,j0 m p r s=some a->a.2=some x->∀q y,j0 m q x y=none:=λp r s a x h e=>by rw[(dG h).a]at e;exact nn e
def Eh:∀p r s a x,ku m p r s=some a->a.2=some x->∀q y,ku m q x y=none:=λp r s a x h e=>by
 obtain⟨_,h⟩|⟨_,h⟩:=(dH h).a<;>rw[h]at e<;>exact nn e
def Ei:∀p r s a x,fy m p r s=some a->a.2=some x->∀q y,fy m q x y=none:=λp r s a x h e=>by
 obtain⟨b,l,h⟩:=cJ h;rw[h.a]at e;exact nn e
def Ej:∀p r s a x,dy c m p r s=some a->a.2=some x->∀q y,dy c m q x y=none:=λp r s a x h e q y=>by
 refine I λd=>?_;have b:∀{t g},(⟨.aM t,g⟩:R)=x->dy c m q x y=none:=λh=>by subst h;rfl
 obtain⟨v,h⟩:=fK h;obtain⟨k,t,_,h⟩|⟨t,z,k,l,_,_,_,h⟩:=h.a<;>rw[h]at e
 ·cases E:v.truth==k<;>rw[E]at e
  ·exact nn e
  ·exact d (b (aj e))
 ·exact d (b (aj e))
def tZ(h:∀p r s x,w p r s=some x->marked c (p+1)=false):∀q a l o',V2 w q a l o'->∀i,0<i->i<a.length->marked c (q+i)=false:=λq a l o' d i b H=>by
 cases d with
 |keep r l=>have H:=H;exact gY (et 0x1151250112011110 rfl b H)
 |dC r s l x e=>have H:=H;obtain rfl:i=1:=(bJ (et 143095043344 rfl H) (et 343885025552 rfl b));exact h _ _ _ _ e
def BR:∀q a l o',V1 f q a l o'->∀i,0<i->i<a.length->marked c (q+i)=false:=λq a l o' H i b h=>by
 cases H with
 |mk r l=>have h:=h;exact gY (et 0x1151250112011110 rfl b h)
def cM(h:jl m p r s z=true):r.o=.dup/\s.o.d9=true/\z.o=.pop/\m (p+1)=false/\m (p+2)=false:=by
 have H:=aA (aA (aA h).2).2;exact⟨Eg (aA h).1,(aA (aA h).2).1,zG H.1,Ee (aA H.2).1,Ee (aA H.2).2⟩
def Ni:∀q a l o',V3 (marked c) q a l o'->∀i,0<i->i<a.length->marked c (q+i)=false:=λq a l o' d i H h=>by
 cases d with
 |keep r l=>have h:=h;exact gY (et 0x1151250112011110 rfl H h)
 |dC r s z l b=>
  have:=em3 H h;obtain rfl|rfl:=this
  ·exact((cM b).2.2.2.1)
  ·exact((cM b).2.2.2.2)
def sY(c:PC)(w:W2)(K:Nat):Prop:=∀(o:List (Option R)) p r s x,w p r s=some x->c.rows[p]?=some r->c.rows[p+1]?=some s->o[p]?=some x.1->o[p+1]?=some x.2->j_ c o K p 2
def RB(h:cW (V2 w) 0 c.rows o bd)(d:∀p r s x,w p r s=some x->marked c (p+1)=false)(e:sY c w K):jK c o K (·∈bd):=
 h.Ed (tZ d) λq a l o' f b H=>by
  obtain⟨i,H⟩:=H;cases f with
  |keep r l=>exact .keep (dg b).1 (dg H).1
  |dC r s l x g=>exact e o q r s x g (dg b).1 (dg (dg b).2).1 (dg H).1 (dg (dg H).2).1
def fkP:sY c (j0 (marked c)) 0:=λo p r s x h d e H b=>by
 have h:=dG h;rw[h.a]at H b;exact .pp d e H b h.r h.s
def fkW:sY c (ku (marked c)) 0:=λo p r s x h d f H b=>by
 have h:=dH h;obtain⟨e,g⟩|⟨e,g⟩:=h.a<;>rw[g]at H b
 ·exact .ss d f H b e h.s
 ·exact .ds d f H b e h.s
def fkU:sY c (fy (marked c)) 0:=λo p r s x h e f H d=>by
 obtain⟨b,l,h⟩:=cJ h;rw[h.a]at H d;exact .tu (by decide) e f h.br h.s H d
def fkK:sY c (dy c (marked c)) 1:=λo p r s x h d f H b=>by
 refine I λg=>?_;obtain⟨v,h⟩:=fK h;obtain⟨k,t,e,i⟩|⟨t,z,k,l,e,E,j,i⟩:=h.a<;>rw[i]at H b
 ·exact g (.Rp d f h.r e H b)
 ·exact g (.BJ rfl d f E h.r e j H b)
def RC(h:cW (V3 (marked c)) 0 c.rows o bd):jK c o 0 (·∈bd):=
 h.Ed Ni λq a l o' e b H=>by
  obtain⟨f,H⟩:=H;cases e with
  |keep r l=>exact .keep (dg b).1 (dg H).1
  |dC r s z l d=>
   exact .cp (dg b).1 (dg (dg b).2).1 (dg (dg (dg b).2).2).1 (dg H).1 (dg (dg H).2).1 (dg (dg (dg H).2).2).1 ((cM d).1) ((cM d).2.1) ((cM d).2.2.1)
def RD(h:cW (V1 f) 0 c.rows o bd)(b:∀p r,c.rows[p]?=some r->o[p]?=some (f p r)->j_ c o K p 1):jK c o K (·∈bd):=
 h.Ed BR λq a l o' d e H=>by
  obtain⟨g,H⟩:=H;cases d with
  |mk r l=>exact b _ _ (dg e).1 (dg H).1
theorem wi(t:Nat):∀k f,kL c t f->kL c t (lh c.rows t k f)
 |0=>λZ Z=>.refl _
 |k+1=>λf h=>by
  show kL c t (match fp c.rows f with|some u=>lh c.rows t k u|none=>f);cases e:fp c.rows f with
  |none=>exact h
  |some u=>
   obtain⟨r,H,d⟩:=Option.bind_eq_some_iff.1 e
   have:kL c t u:=by
    clear e;induction h with
    |refl=>exact .step H (ip d) (.refl _)
    |step a b _ i=>exact .step a b (i H)
   exact wi t k u this
def sZ{o:O}(h:o.g8=true):o=.leave:=by cases o<;>first|rfl|exact ft h
def BS{o:O}(h:o.isJ=true)(H:o.bo=some t):o=.aM t:=by cases o<;>first|exact ft h|(obtain rfl:=aj H;rfl)
def Nj(a:c.rows[p]?=some r)(h:o[p]?=some x)(f:x=some (bF c r)):j_ c o K p 1:=by
 refine I λk=>?_;subst f;unfold bF at h;cases H:r.o.bo with
 |none=>rw[H]at h;exact k (.keep a h)
 |some t=>
  have h:=H▸h;dsimp only at h;have b:kL c t (toEnd c t):=wi t _ t (.refl t);cases E:r.o.isJ<;>have h:=E▸h
  ·exact k (.oF a H b h)
  cases e:c.rows[toEnd c t]? with
  |none=>rw[e]at h;exact k (.oF a H b h)
  |some s=>
   rw[e]at h;dsimp only[Option.any_some]at h;cases d:s.o.g8<;>rw[d]at h
   ·exact k (.oF a H b h)
   ·exact k (.leave a (BS E H) b e (sZ d) h)
def Gy(o:O)(h:o.g7=false){t}(H:o.bo=some t):o=.aM t:=by cases o<;>first|exact nn H|exact tf h|(obtain rfl:=aj H;rfl)
def Gz(o:O)(h:o.g7=true){t}(H:o.bo=some t):∃b,o=.br b t:=by cases o<;>first|exact ft h|(obtain rfl:=aj H;exact⟨_,rfl⟩)
def Ek(a:c.rows[p]?=some r)(H:o[p]?=some x)(f:x=bh p r):j_ c o K p 1:=by
 refine I λk=>?_;subst f;unfold bh at H;cases d:r.o.bo with
 |none=>have H:=d▸H;exact k (.keep a H)
 |some t=>
  have H:=d▸H;dsimp only at H;cases e:t==p+1<;>have H:=e▸H
  ·exact k (.keep a H)
  cases E:r.o.g7<;>have H:=E▸H
  ·exact k (.sj a (beq_iff_eq.1 e▸Gy _ E d) H)
  ·obtain⟨b,h⟩:=Gz _ E d;exact k (.sb a (beq_iff_eq.1 e▸h) H)
def Ip(a:c.rows[p]?=some r)(H:o[p]?=some x)(b:x=bif en c p then some r else none):j_ c o 2 p 1:=by
 subst b;cases e:en c p<;>have H:=e▸H
 ·exact .dead rfl a (λh=>tf (ag ((g9 c p).2 h) e)) H
 ·exact .keep a H
def Nk(c:PC)(d:Nat->Option Nat)(p:Nat):Option Nat:=bif en c p then d p else none
section
def hO:Nk c bf p=some d↔(Reach c p/\bf p=some d):=by
 rw[<-g9];unfold Nk;cases en c p
 ·exact⟨λh=>nn h,λh=>ft h.1⟩
 ·exact⟨λh=>⟨rfl,h⟩,λh=>h.2⟩
def BU(o:Ok c)(cd:Cons c bf):Cons c (Nk c bf) where
 start s hs:=hO.2 ⟨.start hs,cd.start s hs⟩
 low p d r h hr:=cd.low p d r (hO.1 h).2 hr
 aM p d r q h hr ht:=let h:=hO.1 h;hO.2 ⟨h.1.bo hr ht,cd.aM p d r q h.2 hr ht⟩
 eR p d r h hr he:=let h:=hO.1 h;hO.2 ⟨h.1.eR hr he,cd.eR p d r h.2 hr he⟩
 hand p d k h hk ho:=let h:=hO.1 h;hO.2 ⟨h.1.hand (dv (h.1.lt o)) hk ho,cd.hand p d k h.2 hk ho⟩
def kL.same(cd:Cons c bf)(h:kL c t t')(H:bf t=some d):bf t'=some d:=by
 induction h with
 |refl=>exact H
 |step e E _ i=>exact i (by have:=cd.aM _ _ _ _ H e (rX E rfl);rwa[E]at this)
def iK(cd:Cons c bf)(h:bf p=some d)(H:c.rows[p]?=some r)(g:r.o.bZ=false)(i:r.o.ec=(a,b)):bf (p+1)=some (d-a+b)/\a<=d:=by
 have e:=cd.eR p d r h H g;have f:=cd.low p d r h H;rw[i]at e f;exact⟨e,f⟩
def qB(cd:Cons c bf)(h:bf p=some d)(H:c.rows[p]?=some r)(e:r.o.bo=some q)(f:r.o.ec=(a,b)):bf q=some (d-a+b):=by
 have g:=cd.aM p d r q h H e;rwa[f]at g
def m8(x:O)(t:Nat):(x.cC t).ec=x.ec/\(x.cC t).bZ=x.bZ:=by cases x<;>exact⟨rfl,rfl⟩
def t4{x:O}(h:x.bo=none)(t:Nat):x.cC t=x:=by cases x<;>first|rfl|exact nn h.symm
def uh{x:O}(h:(x.cC t).bo=some q):q=t/\∃T,x.bo=some T:=by
 cases x<;>first|exact nn h|exact⟨(aj h).symm,_,rfl⟩
def fe(o:List (Option R))(r:R):(cA o r).o.ec=r.o.ec/\(cA o r).o.bZ=r.o.bZ:=m8 _ _
def fY(h:(cA o r).o.bo=some q):∃t,r.o.bo=some t/\q=aK o t:=by
 obtain⟨e,T,H⟩:=uh h;exact⟨T,H,rX e (rX H rfl)⟩
abbrev KR(c:PC)(o:List (Option R))(S:Nat->Prop)(D:Nat->Option Nat)(p w d P:Nat)(r:R):Prop:=o[P]?=some (some r)/\aK o P=aK o p/\r.o.ec.1<=d/\(∀t,r.o.bo=some t->S t/\D t=some (d-r.o.ec.1+r.o.ec.2))/\(r.o.bZ=false->D (p+w)=some (d-r.o.ec.1+r.o.ec.2)/\aK o (p+w)=aK o p+1)/\∃a,D P=some a
def DW(c:PC)(o:List (Option R))(S:Nat->Prop)(D:Nat->Option Nat)(p d w:Nat):Prop:=(aK o (p+w)=aK o p/\D (p+w)=some d)\/(aK o (p+w)≠aK o p/\∃P r,KR c o S D p w d P r)
structure HD(c:PC)(o:List (Option R))(K:Nat)(S:Nat->Prop)(bf:Nat->Option Nat)(p d:Nat):Prop where
 ok:Ok c
 T:jK c o K S
 cd:Cons c bf
 dr:∀p d,bf p=some d->Reach c p
 hd:bf p=some d
def HD.h7(h:HD c o K S bf p d)(H:c.rows[q]?=some x)(a:x.o.bo=some t)(b:bf q=some d'):S t:=h.T.h7 _ (dn H a) (((h.dr _ _ b).bo H a).lt h.ok)
def ka(h:o[p]?=some u)(H:o[p+1]?=some v):aK o (p+2)=aK o p+(if u.isSome then 1 else 0)+(if v.isSome then 1 else 0):=rX (show p+2=p+1+1 from rfl) (rX (mC H) (rX (mC h) rfl))
def DW.one(a:o[p]?=some (some r))(b:r.o.ec.1<=d)(e:∀t,r.o.bo=some t->S t/\bf t=some (d-r.o.ec.1+r.o.ec.2))(f:r.o.bZ=false->bf (p+w)=some (d-r.o.ec.1+r.o.ec.2))(g:bf p=some d)(H:aK o (p+w)=aK o p+1):DW c o S bf p d w:=
 .inr ⟨by refine rX H ?_;exact Nat.succ_ne_self _,p,r,a,rfl,b,e,λh=>⟨f h,H⟩,d,g⟩
def DW.two(a:o[p]?=some none)(b:o[p+1]?=some (some r))(e:r.o.ec.1<=d)(f:∀t,r.o.bo=some t->S t/\bf t=some (d-r.o.ec.1+r.o.ec.2))(g:r.o.bZ=false->bf (p+w)=some (d-r.o.ec.1+r.o.ec.2))(i:bf (p+1)=some d')(H:aK o (p+w)=aK o p+1):DW c o S bf p d w:=
 .inr ⟨by refine rX H ?_;exact Nat.succ_ne_self _,p+1,r,b,cG a,e,f,λh=>⟨g h,H⟩,d',i⟩
def Nl(h:HD c o K S bf p d)(H:c.rows[p]?=some x)(a:o[p]?=some (some x)):DW c o S bf p d 1:=
 .one a (h.cd.low p d x h.hd H) (λt b=>⟨h.h7 H b h.hd,h.cd.aM p d x t h.hd H b⟩) (h.cd.eR p d x h.hd H) h.hd (aP a)
def RE(h:HD c o K S bf p d)(H:c.rows[p]?=some x)(a:x.o.bo=some t)(b:kL c t t')(f:o[p]?=some (some (x.cC t'))):DW c o S bf p d 1:=by
 obtain⟨e,E⟩:=m8 x.o t';refine .one f ?_ (λu g=>?_) (λi=>?_) h.hd (aP f)
 ·exact rX e (h.cd.low p d x h.hd H)
 ·refine rX (e) ?_;cases ag (dm a) g;exact⟨h.T.h7 _ (b.marked (dn H a)) (b.lt h.ok (((h.dr _ _ h.hd).bo H a).lt h.ok)),b.same h.cd (h.cd.aM p d x t h.hd H a)⟩
 ·exact rX (e) (h.cd.eR p d x h.hd H (ag E i))
def Iq(h:HD c o K S bf p d)(f:c.rows[p]?=some x)(H:x.o=.aM t)(i:kL c t t')(j:c.rows[t']?=some y)(a:y.o=.leave)(b:o[p]?=some (some ⟨.leave,g⟩)):DW c o S bf p d 1:=by
 have e:=h.cd.low t' _ y (i.same h.cd (qB h.cd h.hd f (rX H rfl) (rX H rfl))) j;rw[a]at e;exact .one b e (λZ h=>nn h) (λh=>tf h) h.hd (aP b)
def RF{o:O}(h:o.isPlain=true):∃a b,o.ec=(a,b)/\b=a+1:=by cases o<;>first|exact ft h|exact⟨_,_,rfl,rfl⟩
def Y'(h:HD c o K S bf p d)(j:c.rows[p]?=some x)(k:c.rows[p+1]?=some y)(H:o[p]?=some none)(f:o[p+1]?=some none)(g:x.o.isPlain=true)(i:y.o=.pop):DW c o S bf p d 2:=by
 refine I λl=>?_;obtain⟨a,b,e,rfl⟩:=RF g;obtain⟨m,L⟩:=iK h.cd h.hd j (Gw g) e;obtain⟨n,_⟩:=iK h.cd m k (rX i rfl) (rX i rfl);exact l (.inl ⟨ka H f,n.trans (congrArg some (Nat.sub_add_cancel L))⟩)
def Za(h:HD c o K S bf p d)(f:c.rows[p]?=some x)(g:c.rows[p+1]?=some y)(H:o[p]?=some none)(a:o[p+1]?=some none)(b:x.o=.swap)(e:y.o=.swap):DW c o S bf p d 2:=by
 obtain⟨i,l⟩:=iK h.cd h.hd f (rX b rfl) (rX b rfl);obtain⟨j,L⟩:=iK h.cd i g (rX e rfl) (rX e rfl);exact .inl ⟨ka H a,j.trans (congrArg some (Nat.sub_add_cancel l))⟩
def Zb(h:HD c o K S bf p d)(g:c.rows[p]?=some x)(i:c.rows[p+1]?=some y)(H:o[p]?=some (some x))(b:o[p+1]?=some none)(a:x.o=.dup)(e:y.o=.swap):DW c o S bf p d 2:=by
 obtain⟨j,l⟩:=iK h.cd h.hd g (rX a rfl) (rX a rfl);obtain⟨k,L⟩:=iK h.cd j i (rX e rfl) (rX e rfl);refine .one H (rX a l) (λt f=>by rw[a]at f;exact nn f) (λZ=>rX a (k.trans (congrArg some (by show _=d-1+2;exact Nat.sub_add_cancel L)))) h.hd (ka H b)
def wj{o:O}(h:o.d9=true):o.ec=(1,0)/\o.bZ=false/\o.bo=none:=by cases o<;>first|exact⟨rfl,rfl,rfl⟩|exact ft h
def Zc(h:HD c o K S bf p d)(l:c.rows[p]?=some x)(r:c.rows[p+1]?=some y)(s:c.rows[p+2]?=some z)(H:o[p]?=some none)(a:o[p+1]?=some (some y))(b:o[p+2]?=some none)(f:x.o=.dup)(u:y.o.d9=true)(g:z.o=.pop):DW c o S bf p d 3:=by
 refine I λv=>?_;obtain⟨e,E,w⟩:=wj u;obtain⟨j,L⟩:=iK h.cd h.hd l (rX f rfl) (rX f rfl);obtain⟨A,C⟩:=iK h.cd j r E e;obtain⟨B,_⟩:=iK h.cd A s (rX g rfl) (rX g rfl);refine v (.two H a (rX e L) (λt i=>by rw[w]at i;exact nn i) (λZ=>rX e (B.trans (congrArg some (by show _=d-1+0;exact(λ{m k n}=>Nat.add_left_inj.mpr) rfl)))) j ?_)
 ·exact rX (show p+3=p+2+1 from rfl) (rX (cG b) (rX (ka H a) rfl))
def RG(h:HD c o K S bf p d)(n:c.rows[p]?=some x)(j:c.rows[p+1]?=some y)(f:x.o=.push v)(H:y.o=.br k t)(e:o[p]?=some none)(a:o[p+1]?=some (bif v.truth==k then some ⟨.aM t,g⟩else none)):DW c o S bf p d 2:=by
 refine I λm=>?_;obtain⟨i,L⟩:=iK h.cd h.hd n (rX f rfl) (rX f rfl);cases s:v.truth==k<;>have a:=s▸a
 ·obtain⟨l,w⟩:=iK h.cd i j (rX H rfl) (b:=0) (by rw[H];rfl);exact m (.inl ⟨ka e a,l⟩)
 ·have l:=qB h.cd i j (rX H rfl) (b:=0) (by rw[H];rfl);refine m (.two e a aZ (λu r=>?_) (λh=>tf h) i (ka e a));obtain rfl:=aj r;exact⟨h.h7 j (rX H rfl) i,l⟩
def RK(h:HD c o K S bf p d)(w:K=1)(A:c.rows[p]?=some x)(s:c.rows[p+1]?=some y)(m:c.rows[t]?=some z)(f:x.o=.push v)(e:y.o=.aM t)(H:z.o=.br k l)(i:o[p]?=some none)(j:o[p+1]?=some (some ⟨.aM (bif v.truth==k then l else t+1),g⟩)):DW c o S bf p d 2:=by
 obtain⟨n,L⟩:=iK h.cd h.hd A (rX f rfl) (rX f rfl);have r:=qB h.cd n s (rX e rfl) (rX e rfl);refine .two i j aZ (λu B=>?_) (λh=>tf h) n (ka i j);obtain rfl:=aj B;cases C:v.truth==k
 ·exact⟨h.T.Gx w (h.h7 s (rX e rfl) n) m H,(iK h.cd r m (rX H rfl) (a:=1) (b:=0) (by rw[H];rfl)).1⟩
 ·exact⟨h.h7 m (rX H rfl) r,qB h.cd r m (rX H rfl) (a:=1) (b:=0) (by rw[H];rfl)⟩
def Zd{b:Bool}(h:HD c o K S bf p d)(j:c.rows[p]?=some x)(k:c.rows[p+1]?=some y)(H:x.o=.br b (p+2))(e:y.o=.aM l)(f:o[p]?=some (some ⟨.br (!b) l,g⟩))(i:o[p+1]?=some none):DW c o S bf p d 2:=by
 obtain⟨m,L⟩:=iK h.cd h.hd j (rX H rfl) (rX H rfl);refine .one f L (λu n=>?_) (λZ=>qB h.cd h.hd j (rX H rfl) (rX H rfl)) h.hd (ka f i);obtain rfl:=aj n;exact⟨h.h7 k (rX e rfl) m,(qB h.cd m k (rX e rfl) (a:=0) (rX e rfl))⟩
def Ze(h:HD c o K S bf p d)(a:c.rows[p]?=some x)(H:x.o=.aM (p+1))(b:o[p]?=some none):DW c o S bf p d 1:=
 .inl ⟨cG b,qB h.cd h.hd a (rX H rfl) (rX H rfl)⟩
def Zf{b:Bool}(h:HD c o K S bf p d)(e:c.rows[p]?=some x)(H:x.o=.br b (p+1))(a:o[p]?=some (some ⟨.pop,g⟩)):DW c o S bf p d 1:=by
 obtain⟨f,l⟩:=iK h.cd h.hd e (rX H rfl) (rX H rfl);exact .one a l (λZ h=>nn h) (λZ=>f) h.hd (aP a)
def HD.qW(h:HD c o K S bf p d)(u:j_ c o K p w):DW c o S bf p d w:=by
 cases u with
 |keep b i=>exact Nl h b i
 |oF b v l i=>exact RE h b v l i
 |leave b e l x m i=>exact Iq h b e l x m i
 |pp b f H a j k=>exact Y' h b f H a j k
 |cp b f n H a r y z j=>exact Zc h b f n H a r y z j
 |ss b f H a j k=>exact Za h b f H a j k
 |ds b f H a j k=>exact Zb h b f H a j k
 |Rp b f e g H a=>exact RG h b f e g H a
 |BJ t b f n e g s H a=>exact RK h t b f n e g s H a
 |tu t b f e g H a=>exact Zd h b f e g H a
 |sj b e i=>exact Ze h b e i
 |sb b e i=>exact Zf h b e i
 |dead _ b A=>exact ak (h.dr _ _ h.hd) A
def HD.same(h:HD c o K S bf p d)(k:Nat):S p->S (p+k)->aK o p=aK o (p+k)->bf (p+k)=some d:=by
 induction k using Nat.strongRecOn generalizing p with
 |ind k s=>
  intro n H r;obtain rfl|b:=Nat.eq_zero_or_pos k
  ·exact h.hd
  obtain⟨w,g,f,j,l⟩:=h.T.qW p n (by have:=h.T.le _ H;exact bt (bg b _) this);have a:=Nat.le_of_not_lt λh=>l k b h H;have t:aK o p<=aK o (p+w):=eT (ar p w);have u:aK o (p+w)<=aK o (p+k):=eT (bg a _);have e:p+w+(k-w)=p+k:=(bS ..).trans (congrArg _ (bE a));obtain⟨i,m⟩|⟨i,_⟩:=h.qW g
  ·exact rX e.symm (s (k-w) (Nat.sub_lt b g.pos) ⟨h.ok,h.T,h.cd,h.dr,m⟩ f (rX e (H)) (rX e (rX i r)))
  ·lia
def HD.advance(h:HD c o K S bf p d)(k:Nat):c.rows.length-p<=k->S p->aK o p<(ay c o).rows.length->∃p2 w P r,S p2/\aK o p2=aK o p/\S (p2+w)/\KR c o S bf p2 w d P r:=by
 induction k generalizing p with
 |zero=>
  intro i b H;have:=h.T.le p b;obtain rfl:=bJ this (Nat.le_of_sub_eq_zero (Nat.eq_zero_of_le_zero i));rw[fk,<-kT,h.T.len]at H;exact ak H (Nat.lt_irrefl _)
 |succ k n=>
  intro i b H;obtain e|f:=Nat.eq_or_lt_of_le (h.T.le p b)
  ·rw[fk,<-kT,h.T.len,<-e]at H;exact ak H (Nat.lt_irrefl _)
  obtain⟨w,j,a,m,_⟩:=h.T.qW p b f;obtain⟨l,g⟩|⟨l,P,r,g⟩:=h.qW j
  ·rw[<-l]at H⊢;exact n ⟨h.ok,h.T,h.cd,h.dr,g⟩ (sc i j.pos) a H
  ·exact⟨p,w,P,r,b,rfl,a,g⟩
def zH(o:List (Option R))(S:Nat->Prop)(D:Nat->Option Nat)(q d:Nat):Prop:=∃p,S p/\aK o p=q/\D p=some d
open Classical in
def yk(o:List (Option R))(S:Nat->Prop)(D:Nat->Option Nat)(q:Nat):Option Nat:=if h:∃d,zH o S D q d then some h.choose else none
def Ir(h:yk o S bf q=some d):zH o S bf q d:=by
 unfold yk at h;by_cases e:∃d,zH o S bf q d
 ·rw[dif_pos e]at h;exact aj h▸e.choose_spec
 ·rw[dif_neg e]at h;exact nn h
structure DC(c:PC)(o:List (Option R))(K:Nat)(S:Nat->Prop)(bf:Nat->Option Nat):Prop where
 ok:Ok c
 T:jK c o K S
 cd:Cons c bf
 dr:∀p d,bf p=some d->Reach c p
def DC.of(h:DC c o K S bf)(a:S p)(b:bf p=some d):yk o S bf (aK o p)=some d:=by
 have e:∃d,zH o S bf (aK o p) d:=⟨d,p,a,rfl,b⟩;unfold yk;refine rX (dif_pos e) ?_;obtain⟨p1,f,g,i⟩:=e.choose_spec;refine congrArg some ?_;obtain H|H:=Nat.le_total p p1
 ·have:=HD.same ⟨h.ok,h.T,h.cd,h.dr,b⟩ (p1-p) a (rX (bE H) f) (rX (bE H) (g.symm));rw[bE H,i]at this;exact aj this
 ·have:=HD.same ⟨h.ok,h.T,h.cd,h.dr,i⟩ (p-p1) f (rX (bE H) a) (rX (bE H) g);rw[bE H,b]at this;exact(aj this).symm
def DC.row(h:DC c o K S bf){C:Prop}(e:yk o S bf q=some d)(a:(ay c o).rows[q]?=some x)(k:∀p w P r,q=aK o p->S (p+w)->KR c o S bf p w d P r->x=cA o r->C):C:=by
 obtain⟨p,f,rfl,g⟩:=Ir e;obtain⟨p2,w,P,r,_,b,i,H⟩:=HD.advance ⟨h.ok,h.T,h.cd,h.dr,g⟩ _ di f (cu a);refine k p2 w P r b.symm i H ?_;have:=bT (c:=c) H.1;rw[H.2.1,b,a]at this;exact aj this
theorem DC.ay(h:DC c o K S bf):Cons (ay c o) (yk o S bf) where
 start s hs:=by
  obtain⟨i,H,rfl⟩:=i4 hs;exact h.of (h.T.h7 _ (fX H) (h.ok.s i H)) (h.cd.start i H)
 low q d x hd hr:=h.row hd hr λp w P r Z Z k e=>by exact rX e (rX ((fe o r).1) (k.2.2.1))
 aM q d x t hd hr ht:=h.row hd hr λp w P r Z Z k e=>by
  subst e;obtain⟨j,l,rfl⟩:=fY ht;exact rX ((fe o r).1) (h.of (k.2.2.2.1 j l).1 (k.2.2.2.1 j l).2)
 eR q d x hd hr he:=h.row hd hr λp w P r E g k e=>by
  subst e E;rw[(fe o r).2]at he;exact rX ((fe o r).1) (rX ((k.2.2.2.2.1 he).2).symm (h.of g (k.2.2.2.2.1 he).1))
 hand q d k' hd hk hon:=by
  obtain⟨k,b,rfl,n⟩:=m6 hk;have m:=of_decide_eq_true (aA hon).2;have u:q<(Mine.ay c o).rows.length:=by exact rX fk (i7 m (uM o _))
  refine h.row hd (dv u) λp w P r E g a e=>?_;obtain⟨D,f⟩:=a.2.2.2.2.2;refine h.of (h.T.h7 _ (fW b) (h.ok.k k b).2.2) (h.cd.hand P D k f b ((oE a.1 k).2 ?_));exact rX a.2.1 (rX E.symm (⟨(of_decide_eq_true (aA hon).1),m⟩))
def BV(a:Ok c)(T:jK c o K S)(cd:Cons c bf):∃D,Cons (ay c o) D:=
 ⟨_,DC.ay ⟨a,T,BU a cd,λp d h=>(hO.1 h).1⟩⟩
end
section
variable{c:PC}{p:Nat}{l:List R}
abbrev m9(c:PC)(r:R):Prop:=(∀t,r.o.bo=some t->t<c.rows.length)/\∀k,(r.o=.aL k\/r.o=.a8 k)->k<c.ns
structure GG(n0:Nat)(rs:List Res)(c:PC):Prop where
 ok:Ok c
 so:o9 c
 cd:∃bf,Cons c bf
 ns:c.ns<=200
 run:c.starts.map (λs=>exec c 300 s (ql c.ns))=rs.map some
 len:c.rows.length<=n0
def GG.src(g:GG n0 rs c)(h:c.rows[p]?=some r):m9 c r:=⟨g.ok.t r (gh h),λk H=>g.so r (gh h) k H⟩
def yl(h:t<c.rows.length):m9 c ⟨.aM t,g⟩:=⟨λu H=>by obtain rfl:=aj H;exact h,λk a=>a.elim (λh=>nomatch h) λh=>nomatch h⟩
def RM(h:t<c.rows.length):m9 c ⟨.br b t,g⟩:=⟨λu H=>by obtain rfl:=aj H;exact h,λk a=>a.elim (λh=>nomatch h) λh=>nomatch h⟩
def cW.src(h:cW V p l o B){P:R->Prop}(d:∀q a l' o',V q a l' o'->c.rows.drop q=a++l'->∀r,some r∈o'->P r):∀(_:c.rows.drop p=l),∀r,some r∈o->P r:=by
 induction h with
 |nil p=>intro _ r H;exact ak H d6
 |cons p a l o l' B e n L f i=>
  intro b r H;obtain H|H:=iZ H
  ·exact d _ _ _ _ e b r H
  ·exact i (rX (drop_drop).symm (rX b (rX (gd rfl) rfl))) r H
def cW.last(h:cW V p l o B)(b:∀q a o',V q a [] o'->c.rows.drop q=a->∀r,c.rows[c.rows.length-1]?=some r->r.o.bZ=true->∃s,o'.getLast?=some (some s)/\s.o.bZ=true)(d:c.rows[c.rows.length-1]?=some r)(e:r.o.bZ=true):∀(_:c.rows.drop p=l),l≠[]->∃s,o.getLast?=some (some s)/\s.o.bZ=true:=by
 induction h with
 |nil p=>intro _ h;exact ak rfl h
 |cons p a l o l' B i n L j k=>
  intro H _;cases l with
  |nil=>
   have:=j.len;refine rX (eq_nil_of_length_eq_zero this) ?_;rw[append_nil];rw[append_nil]at H;exact b _ _ _ i H r d e
  |cons x l=>
   obtain⟨s,f,g⟩:=k (rX (drop_drop).symm (rX H (rX (gd rfl) rfl))) (aN _ _);exact⟨s,rX List.getLast?_append (rX f rfl),g⟩
def kW(a:Ok c):∃r,c.rows[c.rows.length-1]?=some r/\r.o.bZ=true/\0<c.rows.length:=by
 have h:0<c.rows.length:=by
  cases b:c.starts with
  |nil=>exact ak b a.s0
  |cons s l=>exact iC (Nat.zero_le s) (a.s s (rX b (eE)))
 have H:c.rows[c.rows.length-1]?=some (c.rows[c.rows.length-1]'(Nat.sub_one_lt_of_lt h)):=dv _;exact⟨_,H,a.e _ _ H (Nat.sub_add_cancel h),h⟩
abbrev RN(c:PC)(o:List (Option R)):Prop:=o.length=c.rows.length/\(∀(q:Nat) (r:R) (t:Nat),o[q]?=some (some r)->r.o.bo=some t->aK o t<(o.filterMap id).length)/\(∀k∈c.ax,aK o k.first<aK o k.last->aK o k.target<(o.filterMap id).length)/\(∀s∈c.starts,aK o s<(o.filterMap id).length)/\∀(q:Nat) (r:R),o[q]?=some (some r)->aK o q+1=(o.filterMap id).length->r.o.bZ=true
def RN.ok(h:RN c o)(a:Ok c):Ok (ay c o) where
 n:=bt (lZ h.1) a.n
 t r' hr t ht:=by
  obtain⟨q,b⟩:=mem_iff_getElem?.1 hr;obtain⟨p,r,d,_,rfl⟩:=cU b;obtain⟨T,g,rfl⟩:=fY ht;exact rX fk (h.2.1 p r T d g)
 k k' hk:=by
  obtain⟨k,f,rfl,H⟩:=m6 hk;exact rX fk (⟨H,uM o _,h.2.2.1 k f H⟩)
 s s' hs:=by
  obtain⟨s,f,rfl⟩:=i4 hs;exact rX fk (h.2.2.2.1 s f)
 kn:=bt (length_filterMap_le _ _) a.kn
 sn:=by show(c.starts.map _).length<=10;exact rX cX (a.sn)
 s0 e:=a.s0 (map_eq_nil_iff.1 e)
 e q r' hr b:=by
  obtain⟨p,r,d,rfl,rfl⟩:=cU hr;rw[fk]at b;exact rX ((fe o r).2) (h.2.2.2.2 p r d b)
def wm(b:Ok c)(d:o.length=c.rows.length)(n:∀r,some r∈o->∀t,r.o.bo=some t->t<c.rows.length)(f:o.getLast?=some (some r))(u:r.o.bZ=true):Ok (ay c o):=by
 obtain⟨_,_,_,a⟩:=kW b;have f:=d▸List.getLast?_eq_getElem?▸f;have H:=aP f;rw[show c.rows.length-1+1=o.length from(Nat.sub_add_cancel a).trans d.symm,kT]at H
 have L:∀t,t<c.rows.length->aK o t<(o.filterMap id).length:=λt i=>by
  have:aK o t<=aK o (c.rows.length-1):=eT (Nat.le_sub_one_of_lt i);exact bX 0x751111706146511 rfl H this
 refine RN.ok ⟨d,λq r t h i=>L t (n r (gh h) t i),λk v Z=>L _ (b.k k v).2.2,λs h=>L s (b.s s h),λq r2 g w=>?_⟩ b;have j:q<c.rows.length:=by exact rX d.symm (cu g)
 have e:q=c.rows.length-1:=by
  apply bJ (Nat.le_sub_one_of_lt j);apply Nat.le_of_not_lt;intro h;have m:aK o (q+1)<=aK o (c.rows.length-1):=eT h;rw[aP g]at m;exact gY (bX 0x611701151170141160514011110 rfl H w m)
 rw[e,f]at g;obtain rfl:=aj (aj (g));exact u
def t5{o:O}(h:o.cC t=.aL k\/o.cC t=.a8 k):o=.aL k\/o=.a8 k:=by cases o<;>first|exact h|exact h.elim (λh=>nomatch h) λh=>nomatch h
def GG.ay(g:GG n0 rs c)(T:jK c o K S)(b:∀r,some r∈o->m9 c r)(a:Ok (Mine.ay c o)):GG n0 rs (Mine.ay c o) where
 ok:=a
 so r' H k hk:=by
  obtain⟨q,d⟩:=mem_iff_getElem?.1 H;obtain⟨p,r,e,_,rfl⟩:=cU d;exact(b r (gh e)).2 k (t5 hk)
 cd:=let⟨_,cd⟩:=g.cd;BV g.ok T cd
 ns:=g.ns
 len:=bt (lZ T.len) g.len
 run:=by
  refine rX (g.run).symm ?_;refine rX map_map ?_;refine map_congr_left λs h=>?_;have f:exec c 300 s (ql c.ns)∈rs.map some:=by exact rX (g.run).symm (mem_map.2 ⟨s,h,rfl⟩)
  obtain⟨r,_,H⟩:=i4 f;exact rX H.symm (sim g.ok T 300 s (ql c.ns) r (T.h7 _ (fX h) (g.ok.s s h)) (.start h) H.symm)
def Nm(h:l.drop q=a)(H:a≠[]):q+a.length=l.length:=by
 have:=congrArg List.length h;rw[length_drop]at this;exact this▸bE (a_ (Nat.lt_of_sub_pos (this▸length_pos_iff.2 H)))
def Zg(c:PC)(w:W2):Prop:=∀q r s x,w q r s=some x->c.rows[q]?=some r->q+2=c.rows.length->s.o.bZ=true->∃S,x.2=some S/\S.o.bZ=true
def GG.walk(g:GG n0 rs c)(v:∀p r s a x,w p r s=some a->a.2=some x->∀q y,w q x y=none)(A:∀p r s x,w p r s=some x->marked c (p+1)=false)(B:sY c w K)(k:∀p r s x,w p r s=some x->c.rows[p]?=some r->c.rows[p+1]?=some s->∀m,(x.1=some m\/x.2=some m)->m9 c m)(C:Zg c w):GG n0 rs (h6 w c):=by
 obtain⟨o,N,e,h⟩:=c8 v;refine rX e ?_;obtain⟨r,H,j,f⟩:=kW g.ok
 have src:=h.src (P:=m9 c) (λq a l' o' i b r H=>by
  refine I λt=>?_;cases i with
  |keep x l=>exact t (rX (aj (d5 H)) (g.src (dg b).1))
  |dC x y l z n=>
   refine t (k q x y z n (dg b).1 (dg (dg b).2).1 r ?_);exact(hH H).imp (λh=>h.symm) λh=>(d5 h).symm) rfl
 obtain⟨s,D,E⟩:=h.last (λq a o' i b r H j=>by
  have d:=Nm b (by cases i<;>exact aN _ _);cases i with
  |keep x l=>
   have:=(dg b).1;rw[show q=c.rows.length-1 from(by have:q+1=c.rows.length:=d;exact Nat.eq_sub_of_add_eq d),H]at this;obtain rfl:=aj this;exact⟨r,rfl,j⟩
  |dC x y l z n=>
   have u:=(dg (dg b).2).1;have d:q+2=c.rows.length:=d;rw[show q+1=c.rows.length-1 from Nat.eq_sub_of_add_eq d,H]at u;obtain rfl:=aj u;obtain⟨S,G,L⟩:=C q x r z n (dg b).1 d j;exact⟨S,congrArg some G,L⟩) H j rfl (length_pos_iff.1 f)
 exact g.ay (RB h A B) src (wm g.ok h.len (λr H=>(src r H).1) D E)
def GG.pP(g:GG n0 rs c):GG n0 rs (dE c):=g.walk BQ (λp r s x h=>(dG h).m) fkP (λp r s x h Z Z b e=>by rw[(dG h).a]at e;exact e.elim (λh=>nn h) λh=>nn h) λq r s x h Z Z e=>by rw[(dG h).s]at e;exact ft e
def GG.pW(g:GG n0 rs c):GG n0 rs (gb c):=g.walk Eh (λp r s x h=>(dH h).m) fkW (λp r s x h b Z d e=>by
 obtain⟨_,H⟩|⟨_,H⟩:=(dH h).a<;>rw[H]at e
 ·exact e.elim (λh=>nn h) λh=>nn h
 ·exact e.elim (λh=>aj h▸g.src b) λh=>nn h) λq r s x h Z Z e=>by rw[(dH h).s]at e;exact ft e
def GG.pU(g:GG n0 rs c):GG n0 rs (cI c):=g.walk Ei (λp r s x h=>let⟨_,_,h⟩:=cJ h;h.m) fkU (λp r s x h Z H i e=>by
 obtain⟨b,l,h⟩:=cJ h;rw[h.a]at e
 refine e.elim (λd=>aj d▸RM ((g.src H).1 _ (rX h.s rfl))) λh=>nn h) λq r s x h H f Z=>by
  obtain⟨b,l,h⟩:=cJ h;have:=(g.src H).1 (q+2) (rX h.br rfl);rw[f]at this;exact ak this (Nat.lt_irrefl _)
def GG.pK(g:GG n0 rs c):GG n0 rs (eh c):=g.walk Ej (λp r s x h=>let⟨_,h⟩:=fK h;h.m) fkK (λp r s x h Z i o e=>by
 obtain⟨v,h⟩:=fK h;obtain⟨k,t,b,H⟩|⟨t,z,k,l,b,H,f,d⟩:=h.a
 ·rw[H]at e;refine e.elim (λh=>nn h) λe=>?_;cases n:v.truth==k<;>rw[n]at e
  ·exact nn e
  ·exact aj e▸yl ((g.src i).1 t (rX b rfl))
 ·rw[d]at e;refine e.elim (λh=>nn h) λe=>aj e▸yl ?_;cases v.truth==k
  ·have j:=(cu H);refine eX j λhh=>?_;have:=g.ok.e t z H hh;rw[f]at this;exact ft this
  ·exact(g.src H).1 l (rX f rfl)) λq r s x h Z Z e=>by
  obtain⟨v,h⟩:=fK h;obtain⟨k,t,b,H⟩|⟨t,z,k,l,b,_,_,d⟩:=h.a
  ·rw[b]at e;exact ft e
  ·exact rX d (⟨_,rfl,rfl⟩)
def GG.pC(g:GG n0 rs c):GG n0 rs (dU c):=by
 obtain⟨o,B,e,h⟩:=gw c;refine rX e ?_;obtain⟨r,H,d,f⟩:=kW g.ok
 have src:=h.src (P:=m9 c) (λq a l' o' j b r H=>by
  refine I λk=>?_;cases j with
  |keep x l=>exact k (rX (aj (d5 H)) (g.src (dg b).1))
  |dC x y z l n=>
   obtain h|h:=hH H
   ·exact nn h.symm
   obtain h|h:=hH h
   ·exact k (aj h▸g.src (dg (dg b).2).1)
   ·exact nn (d5 h).symm) rfl
 obtain⟨s,t,u⟩:=h.last (λq a o' j b r H d=>by
  have i:=Nm b (by cases j<;>exact aN _ _);cases j with
  |keep x l=>
   have:=(dg b).1;rw[show q=c.rows.length-1 from(by have:q+1=c.rows.length:=i;exact Nat.eq_sub_of_add_eq i),H]at this;obtain rfl:=aj this;exact⟨r,rfl,d⟩
  |dC x y z l n=>
   have m:=(dg (dg (dg b).2).2).1;have i:q+3=c.rows.length:=i;rw[show q+1+1=c.rows.length-1 from Nat.eq_sub_of_add_eq i,H]at m;obtain rfl:=aj m;have d:=((cM n).2.2.1)▸d;exact ft d) H d rfl (length_pos_iff.1 f)
 exact g.ay (RC h) src (wm g.ok h.len (λr H=>(src r H).1) t u)
noncomputable def cc(c:PC)(f:Nat->R->Option R):List (Option R):=c.rows.zipIdx.map λx=>f x.2 x.1
def bN(h:c.rows[p]?=some r):(cc c f)[p]?=some (f p r):=by unfold cc;exact rX hW (rX List.getElem?_zipIdx (rX h (congrArg some (congrArg (f · r) (aD p)))))
def cO:(cc c f).length=c.rows.length:=by unfold cc;exact rX cX (rX length_zipIdx rfl)
def eB(h:(cc c f)[q]?=some (some s)):∃r,c.rows[q]?=some r/\f q r=some s:=by
 have H:=(cu h);have H:=cO▸H;exact⟨_,(dv H),aj (ag (bN (dv H)) h)⟩
def GA(H:∀o p r,c.rows[p]?=some r->o[p]?=some (f p r)->j_ c o K p 1):∃S,jK c (cc c f) K S:=
 let⟨_,h⟩:=BO f c.rows 0;⟨_,RD h (H _)⟩
def GG.one(g:GG n0 rs c)(b:∀o p r,c.rows[p]?=some r->o[p]?=some (f p r)->j_ c o K p 1)(d:∀p r s,c.rows[p]?=some r->f p r=some s->m9 c s)(e:∀r,c.rows[c.rows.length-1]?=some r->r.o.bZ=true->∃s,f (c.rows.length-1) r=some s/\s.o.bZ=true):GG n0 rs (Mine.ay c (cc c f)):=by
 refine I λk=>?_;obtain⟨S,T⟩:=GA b;obtain⟨r,h,i,a⟩:=kW g.ok;obtain⟨s,j,m⟩:=e r h i
 have src:∀s,some s∈cc c f->m9 c s:=λs H=>by
  obtain⟨q,n⟩:=mem_iff_getElem?.1 H;obtain⟨r,t,u⟩:=eB n;exact d q r s t u
 refine k (g.ay T src (wm g.ok cO (λr h=>(src r h).1) ?_ m));exact rX List.getLast?_eq_getElem? (rX cO (rX (bN h) (rX j rfl)))
def lp(c:PC)(r:R):(r.o.bo=none/\bF c r=r)\/∃t,r.o.bo=some t/\((∃s,r.o=.aM t/\c.rows[toEnd c t]?=some s/\s.o=.leave/\bF c r=⟨.leave,r.g⟩)\/bF c r=r.cC (toEnd c t)):=by
 unfold bF;cases h:r.o.bo with
 |none=>exact .inl ⟨rfl,rfl⟩
 |some t=>
  refine .inr ⟨t,rfl,?_⟩;dsimp only;cases e:r.o.isJ
  ·exact .inr rfl
  cases a:c.rows[toEnd c t]? with
  |none=>exact .inr rfl
  |some s=>
   dsimp only[Option.any_some];cases E:s.o.g8
   ·exact .inr rfl
   ·exact .inl ⟨s,BS e h,rfl,sZ E,rfl⟩
def GG.pT(g:GG n0 rs c):GG n0 rs (bK c):=by
 refine rX (show bK c=Mine.ay c (cc c λZ r=>some (bF c r)) from congrArg (Mine.ay c) (iS c.rows λr=>some (bF c r))) ?_;refine g.one (K:=0) (λo p r H a=>Nj H a rfl) (λp r s H a=>?_) λr Z f=>⟨_,rfl,?_⟩
 ·obtain rfl:=aj a;obtain⟨_,e⟩|⟨t,d,⟨s,_,_,_,e⟩|e⟩:=lp c r<;>refine rX e ?_
  ·exact g.src H
  ·exact⟨λZ h=>nn h,λk b=>b.elim (λh=>nomatch h) λh=>nomatch h⟩
  ·have i:=(g.src H).1 t d;refine⟨λu j=>?_,λk b=>(g.src H).2 k (t5 b)⟩;cases ag (dm d) j;exact q0 g.ok i _ t i
 ·obtain⟨_,e⟩|⟨t,d,⟨s,_,_,_,e⟩|e⟩:=lp c r<;>refine rX e ?_
  ·exact f
  ·rfl
  ·exact(m8 _ _).2.trans f
def cf(p:Nat)(r:R):(r.o.bo≠some (p+1)/\bh p r=some r)\/(r.o=.aM (p+1)/\bh p r=none)\/∃b,r.o=.br b (p+1)/\bh p r=some ⟨.pop,r.g⟩:=by
 unfold bh;cases H:r.o.bo with
 |none=>exact .inl ⟨(λh=>nn h),rfl⟩
 |some t=>
  dsimp only;cases e:t==p+1
  ·exact .inl ⟨λh=>beq_eq_false_iff_ne.1 e (aj h),rfl⟩
  have e:=beq_iff_eq.1 e;subst e;cases E:r.o.g7
  ·exact .inr (.inl ⟨Gy _ E H,rfl⟩)
  ·obtain⟨b,h⟩:=Gz _ E H;exact .inr (.inr ⟨b,h,rfl⟩)
def GG.pS(g:GG n0 rs c):GG n0 rs (cQ c):=by
 refine g.one (K:=0) (λo p r H a=>Ek H a rfl) (λp r s H a=>?_) λr f i=>?_
 ·obtain⟨_,e⟩|⟨_,e⟩|⟨b,_,e⟩:=cf p r<;>rw[e]at a<;>cases a
  ·exact g.src H
  ·exact⟨λZ h=>nn h,λk j=>j.elim (λh=>nomatch h) λh=>nomatch h⟩
 ·have m:=(kW g.ok);obtain⟨_,_,_,d⟩:=m;have no:∀t,r.o.bo=some t->t=c.rows.length-1+1->∃s,bh (c.rows.length-1) r=some s/\s.o.bZ=true:=λt H a=>by have:=(g.src f).1 t H;omega
  obtain⟨_,e⟩|⟨E,_⟩|⟨b,E,_⟩:=cf (c.rows.length-1) r
  ·exact⟨r,e,i⟩
  ·exact no _ (rX E rfl) rfl
  ·exact no _ (rX E rfl) rfl
def ck(c:PC)(p:Nat)(r:R):Option R:=bif en c p then some r else none
def jM(h:Reach c p):ck c p r=some r:=by unfold ck;exact rX ((g9 c p).2 h) rfl
def eW(h:ck c p r=some s):Reach c p/\r=s:=by
 unfold ck at h;cases e:en c p<;>have h:=e▸h
 ·exact nn h
 ·exact⟨(g9 c p).1 e,aj h⟩
def rA(o:Ok c)(h:Reach c p):∃r,c.rows[p]?=some r/\(cc c (ck c))[p]?=some (some r):=by
 have H:c.rows[p]?=some (c.rows[p]'(h.lt o)):=dv _;exact⟨_,H,rX (bN H) (rX (jM h) rfl)⟩
def zI(b:k∈c.ax)(h:aK (cc c (ck c)) k.first<aK (cc c (ck c)) k.last):Reach c k.target:=by
 obtain⟨q,s,H,a⟩:=sX (i7 h (uM _ _));obtain⟨r,d,e⟩:=eB H;exact(eW e).1.hand d b ((oE H k).2 ⟨bx (id (Eq.symm a)),lt_of_eq_of_lt a h⟩)
def GG.pD(g:GG n0 rs c):GG n0 rs (cR c):=by
 show GG n0 rs (Mine.ay c (cc c (ck c)));obtain⟨S,T⟩:=GA (f:=ck c) λo p r H a=>Ip H a rfl
 have i:∀{q s},(cc c (ck c))[q]?=some (some s)->Reach c q/\c.rows[q]?=some s:=λh=>by
  obtain⟨r,H,a⟩:=eB h;obtain⟨n,rfl⟩:=eW a;exact⟨n,H⟩
 have L:∀{q},Reach c q->aK (cc c (ck c)) q<((cc c (ck c)).filterMap id).length:=λh=>let⟨_,_,h⟩:=rA g.ok h;Ro h;refine g.ay T (λs b=>?_) (RN.ok ⟨cO,λq r t h j=>L ((i h).1.bo (i h).2 j),λk m d=>L (zI m d),λs b=>L (.start b),λq r h e=>?_⟩ g.ok)
 ·obtain⟨q,e⟩:=mem_iff_getElem?.1 b;exact g.src (i e).2
 ·cases u:r.o.bZ
  ·have:=L ((i h).1.eR (i h).2 u);rw[aP h,e]at this;exact ak this (Nat.lt_irrefl _)
  ·rfl
def Nn(n:Nat)(rs:List Res):Kept (GG n rs):=⟨λZ g=>g.ok,
 λq c g=>by
  cases q
  ·exact g.pT
  ·exact g.pK
  ·exact g.pU
  ·exact g.pS
  ·exact g.pD
  ·exact g.pP
  ·exact g.pC
  ·exact g.pW⟩
end
def R.ty(r:R):Nat:=r.g*16+r.o.kd
noncomputable def inner:List (Nat×List Nat):=[(33,[2,0]),(32,[3]),(34,[2,13,395]),(35,[1]),(1,[2]),(2,[6,9,14,15,185,3]),(6,[7]),(7,[2]),(0,[6]),(9,[3]),(3,[3]),(14,[3]),(18,[363]),(363,[368]),(368,[3]),(395,[400]),(400,[426]),(426,[432]),(432,[451]),
 (64,[87]),(65,[87]),(66,[87]),(68,[87]),(96,[120,147,149]),(98,[120,147,149]),(120,[137,147,149]),(137,[147,149]),(147,[167]),(149,[167]),(185,[201]),(201,[3]),(210,[235,231]),(235,[272,298,304,330]),(272,[298]),(298,[304]),(304,[331,327]),(240,[267])]
noncomputable def c3:List Nat:=[18,32,33,34,35,64,65,66,68,96,98,210,240,266,346,432,451,901]
noncomputable def h_:List Nat:=[3,7,13,15,87,147,149,167,235,231,267,266,331,330,327,346,451,900]
noncomputable def getL:List (Nat×List Nat)->Nat->List Nat
 |[],_=>[]
 |x::l,k=>match Nat.beq x.1 k with|true=>x.2|false=>getL l k
def dO(a b:Nat):Bool:=match aw (getL inner a) b with
 |true=>true
 |false=>(match aw c3 b with|true=>aw h_ a|false=>false)
inductive ie:Nat->List Nat->Prop
 |nil (a):dO a 901=true->ie a []
 |cons (a b l):dO a b=true->ie b l->ie a (b::l)
noncomputable def cT(f:Nat->Bool):List Nat->Bool
 |[]=>true
 |x::l=>match f x with|true=>cT f l|false=>false
theorem bC:∀{l:List Nat} {x},cT f l=true->aw l x=true->f x=true
 |[]=>λZ h=>ft h
 |y::l=>λh H=>by
  have h:(match f y with|true=>cT f l|false=>false)=true:=h;have H:(match Nat.beq y _ with|true=>true|false=>aw l _)=true:=H;cases e:Nat.beq y _<;>rw[e]at H
  ·cases E:f y<;>rw[E]at h
   ·exact ft h
   ·exact bC h H
  ·refine rX (lT e).symm ?_;cases E:f y with
   |false=>rw[E]at h;exact ft h
   |true=>rfl
noncomputable def imp(a b:Bool):Bool:=match a with|true=>b|false=>true
def bO(h:imp a b=true)(H:a=true):b=true:=by subst H;exact h
def dY(l:List Nat)(t:Nat):Bool:=aw l (t%16)
def jn(r:R):r.ty%16=r.o.kd:=by
 have:r.o.kd<16:=by cases r.o<;>exact aR rfl
 exact Nat.mul_add_mod_of_lt this
def ie.hd(h:ie a (b::l)):dO a b=true/\ie b l:=by cases h with|cons _ _ _ H c=>exact⟨H,c⟩
def ie.end(h:ie a []):dO a 901=true:=by cases h with|nil _ h=>exact h
noncomputable def f5:List Nat->Nat
 |[]=>901
 |a::_=>a
theorem ie.f5(h:ie a l):dO a (f5 l)=true:=by cases h with|nil _ h=>exact h|cons _ _ _ h _=>exact h
def dq(l:List R):List Nat:=l.map R.ty
def dI(l:List (Option R)):List Nat:=(l.filterMap id).map R.ty
def kX(a b:List (Option R)):dI (a++b)=dI a++dI b:=by unfold dI;exact rX filterMap_append (rX fD rfl)
def mD(a b:List R):dq (a++b)=dq a++dq b:=fD
noncomputable def s_:Nat->List Nat->Nat->Bool
 |u,[],z=>dO u z
 |u,b::a,z=>match dO u b with|true=>s_ b a z|false=>false
def iL(h:s_ u (b::a) z=true):dO u b=true/\s_ b a z=true:=by
 have h:(match dO u b with|true=>s_ b a z|false=>false)=true:=h;cases e:dO u b<;>have h:=e▸h
 ·exact ft h
 ·exact⟨rfl,h⟩
def pmk(h:dO u b=true)(k:s_ b a z=true):s_ u (b::a) z=true:=by
 show(match dO u b with|true=>s_ b a z|false=>false)=true;exact rX h k
theorem ie.RP:∀{a l:List Nat} {u},ie u (a++l)->s_ u a (Mine.f5 l)=true
 |[]=>λh=>h.f5
 |_::_=>λh=>pmk h.hd.1 h.hd.2.RP
theorem ie.drop:∀{a l:List Nat} {u},ie u (a++l)->∃v,ie v l
 |[]=>λh=>⟨_,h⟩
 |_::_=>λh=>h.hd.2.drop
def abb(c:∀v,aw K v=true->dO v z=true->ie v l):∀{a:List Nat} {u},aw K u=true->(∀x∈a,aw K x=true)->s_ u a z=true->ie u (a++l):=by
 intro m;induction m with
 |nil=>exact λd Z h=>c _ d h
 |cons b a i=>exact λZ H h=>.cons _ _ _ (iL h).1 (i (H b eE) (λx e=>H x (fg e)) (iL h).2)
abbrev RR(K k X bI:List Nat)(a o:List Nat)(z:Nat):Prop:=(∀u,aw K u=true->s_ u a z=true->s_ u o z=true)/\(∀x∈o,aw k x=true)/\(aw c3 (f5 a)=true->aw c3 (f5 (o++[z]))=true)/\(aw bI (f5 a)=true->f5 (o++[z])=f5 a)/\aw X z=false
def rB(c:PC)(V:Vd)(K k X bI:List Nat):Prop:=∀p a l o u,V p a l o->c.rows.drop p=a++l->(∀x∈dq a,aw K x=true)->aw X (f5 (dq a))=false->aw K u=true->s_ u (dq a) (f5 (dq l))=true->RR K k X bI (dq a) (dI o) (f5 (dq l))
def zJ(h:a≠[]):f5 (dq a)=f5 (dq (a++b)):=by cases a with|nil=>exact ak rfl h|cons=>rfl
abbrev Ends(K k bI:List Nat)(l:List R)(o:List (Option R)):Prop:=(∀v,aw K v=true->dO v (f5 (dq l))=true->ie v (dI o))/\(∀x∈dI o,aw k x=true)/\(aw c3 (f5 (dq l))=true->aw c3 (f5 (dI o))=true)/\(aw bI (f5 (dq l))=true->f5 (dI o)=f5 (dq l))
def cW.ends(h:cW V p l o N)(C:∀x,aw K' x=true->aw K x=true)(Q:aw bI 901=false)(D:rB c V K K' X bI):c.rows.drop p=l->(∀x∈dq l,aw K x=true)->aw X (f5 (dq l))=false->∀u,aw K u=true->ie u (dq l)->Ends K K' bI l o:=by
 induction h with
 |nil p=>intro _ _ _ _ _ _;exact⟨λv Z h=>.nil v h,λx H=>ak H d6,λh=>h,λh=>rfl⟩
 |cons p a l o l' N P n S T s=>
  intro A f G u g i;rw[mD]at i f;have w:=D p a l o u P A (λx H=>f x (mem_append_left _ H)) (rX (zJ n) (G)) g i.RP
  have L:∀{a:List Nat} {u},aw K u=true->(∀x∈a,aw K x=true)->ie u (a++dq l)->∃v,aw K v=true/\ie v (dq l):=by
   intro a;induction a with
   |nil=>intro u g _ h;exact⟨u,g,h⟩
   |cons b a s=>intro u _ B h;exact s (B b eE) (λx H=>B x (fg H)) h.hd.2
  obtain⟨v,k,m⟩:=L g (λx H=>f x (mem_append_left _ H)) i;have e:=s (rX (drop_drop).symm (rX A (rX (gd rfl) rfl))) (λx H=>f x (mem_append_right _ H)) w.2.2.2.2 v k m;have E:=zJ n (b:=l);refine⟨λy z j=>?_,λx H=>?_,λh=>?_,λh=>?_⟩
  ·rw[kX];refine abb e.1 z (λx H=>C x (w.2.1 x H)) (w.1 y z ?_);cases a with
   |nil=>exact ak rfl n
   |cons r a=>exact pmk j (iL i.RP).2
  ·rw[kX]at H;exact(iZ H).elim (w.2.1 x) (e.2.1 x)
  ·have:=w.2.2.1 (rX E h);rw[kX];cases d:dI o with
   |nil=>rw[d]at this;exact e.2.2.1 this
   |cons y t=>rw[d]at this;exact this
  ·have:=w.2.2.2.1 (rX E h);rw[E]at this;rw[kX];cases d:dI o with
   |nil=>
    rw[d]at this;exact(e.2.2.2 (rX (this) h)).trans this
   |cons y t=>rw[d]at this;exact this
def TG(E:Nat->Nat->Bool)(a b p t:Nat):Prop:=(aw c3 b=true\/E a b=true)/\(p<t\/b=18)/\(a=395->b=432/\t=p+3)/\(a=426->b=451)
structure Cl(K:List Nat)(E:Nat->Nat->Bool)(c:PC):Prop where
 ty:∀(p:Nat) (r:R),c.rows[p]?=some r->aw K r.ty=true
 ch:ie 900 (dq c.rows)
 tg:∀(p:Nat) (r:R) (t:Nat) (s:R),c.rows[p]?=some r->r.o.bo=some t->c.rows[t]?=some s->TG E r.ty s.ty p t
 ca:∀k∈c.ax,∀s,c.rows[k.target]?=some s->s.ty=35
 st:∀x∈c.starts,∀s,c.rows[x]?=some s->aw c3 s.ty=true
noncomputable def bL(_ _:Nat):Bool:=false
def Cl.mem(h:Cl K E c)(H:x∈dq c.rows):aw K x=true:=by
 obtain⟨r,a,rfl⟩:=i4 H;obtain⟨p,b⟩:=mem_iff_getElem?.1 a;exact h.ty p r b
theorem Cl.marked(h:Cl K E c)(H:marked c q=true)(b:c.rows[q]?=some s):aw c3 s.ty=true\/∃a,E a s.ty=true:=by
 refine I λd=>?_;obtain H|H:=pF H
 ·obtain H|H:=pF H
  ·obtain⟨r,f,e⟩:=any_eq_true.1 H;obtain⟨p,g⟩:=mem_iff_getElem?.1 f;exact d ((h.tg p r q s g (beq_iff_eq.1 e) b).1.imp_right λh=>⟨_,h⟩)
  ·obtain⟨k,i,e⟩:=any_eq_true.1 H;exact d (.inl (by refine rX (h.ca k i s (beq_iff_eq.1 e▸b)) ?_;kernel_rfl))
 ·obtain⟨x,j,e⟩:=any_eq_true.1 H;exact d (.inl (h.st x j s (beq_iff_eq.1 e▸b)))
def aH(o:List (Option R))(r:R):(cA o r).ty=r.ty:=by
 obtain⟨x,g⟩:=r;cases x<;>rfl
def BW(a:(ay c o).rows[aK o t]?=some s)(b:o.length=c.rows.length)(d:t<=o.length):s.ty=f5 (dI (o.drop t)):=by
 have e:(ay c o).rows.drop (aK o t)=((o.drop t).filterMap id).map (cA o):=by
  refine rX map_drop.symm ?_;refine congrArg _ ?_
  conv=>lhs;rw[<-take_append_drop t o,filterMap_append]
  refine gd ?_;rw[aK,take_append_drop]
 have H:=List.getElem?_drop (xs:=(ay c o).rows) (i:=aK o t) (j:=0);rw[e,Nat.add_zero,a]at H;unfold dI;cases h:(o.drop t).filterMap id with
 |nil=>rw[h]at H;exact nn H
 |cons x l=>
  rw[h]at H;exact rX (aj H).symm (aH o x)
theorem Cl.ay(h:Cl K E c)(ok:Ok c)(sc:cW V 0 c.rows o y)(hm:∀q a l o',V q a l o'->∀i,0<i->i<a.length->Mine.marked c (q+i)=false)(hK:∀x,aw K' x=true->aw K x=true)(W:aw K 900=true)(h9:aw bI 901=false)(hX:aw X (f5 (dq c.rows))=false)(hV:rB c V K K' X bI)
  (d:aw bI 18=true/\aw bI 35=true/\aw bI 432=true/\aw bI 451=true)(hE:∀a b,E' a b=true->aw bI b=true)(Y:∀q∈y,q<c.rows.length->aw X (f5 (dq (c.rows.drop q)))=false)
  (h8:∀(p:Nat) (r:R),o[p]?=some (some r)->r.ty=395->aK o (p+3)=aK o p+3)(L:∀(p:Nat) (r:R),o[p]?=some (some r)->∀t,r.o.bo=some t->t∈y/\t<c.rows.length/\∀s,c.rows[t]?=some s->TG E' r.ty s.ty p t):Cl K' E' (ay c o):=by
 have e0:=sc.ends hK h9 hV rfl (λx g=>h.mem g) hX 900 W h.ch
 have D:∀n {l:List Nat} {u},aw K u=true->(∀x∈l,aw K x=true)->ie u l->∃v,aw K v=true/\ie v (l.drop n):=by
  intro n;induction n with
  |zero=>intro l u N _ h;exact⟨u,N,h⟩
  |succ n ih=>
   intro l u N f h;cases l with
   |nil=>exact⟨u,N,h⟩
   |cons b l=>exact ih (f b eE) (λx g=>f x (fg g)) h.hd.2
 have C:∀{t s S},t∈y->t<c.rows.length->c.rows[t]?=some S->(Mine.ay c o).rows[aK o t]?=some s->(aw c3 S.ty=true->aw c3 s.ty=true)/\(aw bI S.ty=true->s.ty=S.ty):=by
  intro t s S hb f H m;refine I λk0=>?_;obtain⟨v,hv,hc⟩:=D t W (λx g=>h.mem g) h.ch;have hd:(dq c.rows).drop t=dq (c.rows.drop t):=map_drop.symm;rw[hd]at hc
  have sub:∃B,cW V t (c.rows.drop t) (o.drop t) B:=by
   have key:∀{p l o y},cW V p l o y->∀t∈y,∃B,cW V t (l.drop (t-p)) (o.drop (t-p)) B:=by
    intro p l o y h;induction h with
    |nil p=>intro t z;refine rX (d5 z) ?_;rw[Nat.sub_self];exact⟨_,.nil p⟩
    |cons p a l o l' y hv ne le m ih=>
     intro t z;obtain rfl|z:=hH z
     ·rw[Nat.sub_self];exact⟨_,.cons _ a l o l' y hv ne le m⟩
     ·obtain⟨B,h⟩:=ih t z;have:=(m.lo.2.2 t z).1;exact rX (sd this) (rX (drop_drop).symm (rX (gd rfl) (rX (drop_drop).symm (rX (gd le.symm) (⟨B,h⟩)))))
   exact key sc t hb
  obtain⟨B,sub⟩:=sub;have e:=sub.ends hK h9 hV rfl (λx g=>h.mem (by rw[<-hd]at g;exact mem_of_mem_drop g)) (Y t hb f) v hv hc
  have hn:f5 (dq (c.rows.drop t))=S.ty:=by
   have:=List.getElem?_drop (xs:=c.rows) (i:=t) (j:=0);rw[Nat.add_zero,H]at this;cases hq:c.rows.drop t with
   |nil=>rw[hq]at this;exact nn this
   |cons x l=>rw[hq]at this;exact rX (aj this).symm rfl
  exact k0 (rX (BW m sc.len (rX sc.len (a_ f))) (rX hn.symm (⟨e.2.2.1,e.2.2.2⟩)))
 refine⟨λp r hr=>?_,?_,λq r u s hr N m=>?_,λk' hk s m=>?_,λx g s m=>?_⟩
 ·obtain⟨p,r,P,_,rfl⟩:=cU hr;rw[aH];exact e0.2.1 _ (mem_map.2 ⟨r,mem_filterMap.2 ⟨some r,gh P,rfl⟩,rfl⟩)
 ·have:dq (Mine.ay c o).rows=dI o:=by
   show((o.filterMap id).map (cA o)).map R.ty=_;exact rX map_map (map_congr_left λr Z=>aH o r)
  exact rX this (e0.1 900 W h.ch.f5)
 ·obtain⟨p,r,P,rfl,rfl⟩:=cU hr;obtain⟨t,z,rfl⟩:=fY N;obtain⟨h1,h2,Q⟩:=L p r P t z;have H:=dv h2;have T:=(Q _ H).1;have G:=(Q _ H).2.1;have g3:=(Q _ H).2.2.1;obtain⟨k1,k2⟩:=C h1 h2 H m;rw[aH];refine⟨T.imp k1 λT=>by refine rX (k2 (hE _ _ T)) ?_;exact T,?_,λe=>?_,λe=>?_⟩
  ·obtain G|G:=G
   ·exact .inl (i7 (by exact rX (aP P) (ba _)) (eT G))
   ·exact .inr ((k2 (rX G (d.1))).trans G)
  ·have e1:=(g3 e).1;exact⟨(k2 (rX e1 (d.2.2.1))).trans e1,rX ((g3 e).2) (h8 p r P e)⟩
  ·exact(k2 (rX (((Q _ H).2.2.2) e) (d.2.2.2))).trans (((Q _ H).2.2.2) e)
 ·obtain⟨k,w,rfl,_⟩:=m6 hk;have f:=(ok.k k w).2.2;have H:=dv f;exact((C (sc.h7 hm (fW w) f) f H m).2 (rX (h.ca k w _ H) (d.2.1))).trans (h.ca k w _ H)
 ·obtain⟨x0,A,rfl⟩:=i4 g;have f:=ok.s x0 A;exact(C (sc.h7 hm (fX A) f) f (dv f) m).1 (h.st x0 A _ (dv f))
noncomputable def GB(f:List Nat->Bool):List (List Nat)->Bool
 |[]=>true
 |x::l=>match f x with|true=>GB f l|false=>false
theorem BX:∀{l:List (List Nat)} {x},GB f l=true->x∈l->f x=true
 |[]=>λZ h=>ak h d6
 |y::l=>λh H=>by
  have h:(match f y with|true=>GB f l|false=>false)=true:=h;cases e:f y with
  |false=>rw[e]at h;exact ft h
  |true=>
   rw[e]at h;obtain rfl|H:=hH H
   ·exact e
   ·exact BX h H
noncomputable def c4(a b:Bool):Bool:=match a with|true=>b|false=>false
def aG(h:c4 a b=true):a=true/\b=true:=by
 cases a
 ·exact ft h
 ·exact⟨rfl,h⟩
noncomputable def Zh(K:List Nat):List Nat->Bool
 |[]=>true
 |x::l=>c4 (aw K x) (Zh K l)
def RS:∀{l:List Nat},Zh K l=true->∀x∈l,aw K x=true:=by
 intro m;induction m with
 |nil=>exact λZ Z h=>ak h d6
 |cons _ _ i=>
  intro h x H;obtain rfl|H:=hH H
  ·exact(aG h).1
  ·exact i (aG h).2 x H
def BY(K k X bI:List Nat)(a o:List Nat)(z:Nat):Bool:=c4 (cT (λu=>imp (dO u (f5 a)) (s_ u o z)) K)<|c4 (Zh k o)<|c4 (imp (aw c3 (f5 a)) (aw c3 (f5 (o++[z]))))<|c4 (imp (aw bI (f5 a)) (Nat.beq (f5 (o++[z])) (f5 a))) (imp (aw X z) false)
def nf(h:imp b false=true):b=false:=by cases b;rfl;exact ft h
def rC(h:BY K K' X bI a o z=true)(c:a≠[]):RR K K' X bI a o z:=by
 have H:=aG (aG (aG (aG h).2).2).2;refine⟨λu d e=>?_,RS (aG (aG h).2).1,bO (aG (aG (aG h).2).2).1,λh=>lT (bO H.1 h),nf H.2⟩;cases a with
 |nil=>exact ak rfl c
 |cons b a=>exact bO (bC (aG h).1 d) (iL e).1
def Zi(k X:List Nat)(m:Nat->Nat->Bool)(a z:Nat):Bool:=imp (dO a z) (match m a z with|true=>imp (Nat.beq z 901) false|false=>c4 (aw k a) (imp (aw X z) false))
def lr(K k X bI:List Nat)(cond m:Nat->Nat->Bool)(c:Nat->Nat->List (List Nat)):Bool:=
 cT (λa=>match aw X a with|true=>true|false=>c4 (cT (Zi k X m a) K) (cT (λb=>imp (cond a b) (imp (dO a b) (GB (λo=>cT (λz=>imp (dO b z) (BY K k X bI [a,b] o z)) K) (c a b)))) K)) K
def cW.heads{p}(h:cW V p l o B)(s:rB c V K K' X bI):c.rows.drop p=l->(∀x∈dq l,aw K x=true)->aw X (f5 (dq l))=false->∀u,aw K u=true->ie u (dq l)->∀q∈B,aw X (f5 (dq (c.rows.drop q)))=false:=by
 induction h with
 |nil p=>intro h _ t _ _ _ q d;exact rX (d5 d) (rX h t)
 |cons p a l o l' B w N y z m=>
  intro j e n u f k q d;obtain rfl|d:=hH d
  ·exact rX j n
  rw[mD]at k e
  have L:∀{a:List Nat} {u},aw K u=true->(∀x∈a,aw K x=true)->ie u (a++dq l)->∃v,aw K v=true/\ie v (dq l):=by
   intro a;induction a with
   |nil=>intro u f _ h;exact⟨u,f,h⟩
   |cons b a m=>intro u _ r h;exact m (r b eE) (λx H=>r x (fg H)) h.hd.2
  obtain⟨v,g,i⟩:=L f (λx H=>e x (mem_append_left _ H)) k;exact m (rX (drop_drop).symm (rX j (rX (gd rfl) rfl))) (λx H=>e x (mem_append_right _ H)) (s p a l o u w j (λx H=>e x (mem_append_left _ H)) (rX (zJ N) (n)) f k.RP).2.2.2.2 v g i q d
def Iu{cond mE outs a z}(h:lr K K' X bI cond mE outs=true)(d:aw K a=true)(f:aw X a=false)(g:aw K z=true)(b:dO a z=true):(mE a z=true/\z≠901)\/(aw K' a=true/\aw X z=false):=by
 have c:=bC h d;rw[f]at c;have H:=bO (bC (aG c).1 g) b;cases i:mE a z<;>rw[i]at H
 ·exact .inr ⟨(aG H).1,nf (aG H).2⟩
 ·refine .inl ⟨rfl,λe=>?_⟩;subst e;exact ft H
def Iv{cond mE outs a b z}{o:List Nat}(h:lr K K' X bI cond mE outs=true)(d:aw K a=true)(e:aw X a=false)(f:aw K b=true)(g:aw K z=true)(i:cond a b=true)(H:dO a b=true)(c:dO b z=true)(j:o∈outs a b):RR K K' X bI [a,b] o z:=by
 have k:=bC h d;have l:=BX (bO (bO (bC (aG (e▸k)).2 f) i) H) j;exact rC (bO (bC l g) c) (aN _ _)
def Cl.nx(h:Cl K E c)(H:aw K 901=true)(b:c.rows.drop p=a++l):aw K (f5 (dq l))=true:=by
 cases l with
 |nil=>exact H
 |cons s l=>
  refine h.mem (mem_map.2 ⟨s,?_,rfl⟩);have:s∈c.rows.drop p:=by exact rX b (mem_append_right _ eE)
  exact mem_of_mem_drop this
def zK(H:aw K' r.ty=true)(a:aw X (f5 (dq l))=false):RR K K' X bI (dq [r]) (dI [some r]) (f5 (dq l)):=
 ⟨λZ Z h=>h,λx b=>by refine rX (d5 b) ?_;exact H,λh=>h,λZ=>rfl,a⟩
def Zj{cond mE outs}(h:Cl K E c)(g:aw K 901=true)(i:lr K K' X bI cond mE outs=true)
 (k:∀p r s x,c.rows[p]?=some r->c.rows[p+1]?=some s->w p r s=some x->cond r.ty s.ty=true/\dI [x.1,x.2]∈outs r.ty s.ty)
 (m:∀p r s,c.rows[p]?=some r->c.rows[p+1]?=some s->mE r.ty s.ty=true->w p r s=none->False):rB c (V2 w) K K' X bI:=by
 intro p a l o u n H e j y f;cases n with
 |keep r l t=>
  obtain⟨b,d⟩|⟨b,d⟩:=Iu i (e _ eE) j (h.nx g H) (iL f).2
  ·cases l with
   |nil=>exact ak rfl d
   |cons s l=>exact(m p r s (dg H).1 (dg (dg H).2).1 b (t s rfl)).elim
  ·exact zK b d
 |dC r s l x v=>
  obtain⟨b,d⟩:=k p r s x (dg H).1 (dg (dg H).2).1 v;exact Iv i (e _ eE) j (e _ (fg eE)) (h.nx g H) b (iL (iL f).2).1 (iL (iL f).2).2 d
structure Fx(K K' X bI:List Nat)(E':Nat->Nat->Bool):Prop where
 hK:∀x,aw K' x=true->aw K x=true
 h0:aw K 900=true
 h9:aw bI 901=false
 fx:aw bI 18=true/\aw bI 35=true/\aw bI 432=true/\aw bI 451=true
 hE:∀a b,E' a b=true->aw bI b=true
 X0:aw X 900=false
 Xn:cT (λz=>imp (dO 900 z) (imp (aw X z) false)) K=true
def GC(k K:List Nat):Bool:=cT (aw K) k
def zL(h:GC K' K=true):∀x,aw K' x=true->aw K x=true:=λZ H=>bC h H
def Cl.oH(h:Cl K E c)(g:c.rows[p]?=some r)(i:c.rows[p+1]?=some s):Mine.dO r.ty s.ty=true:=by
 have e:(dq c.rows).drop p=r.ty::s.ty::dq (c.rows.drop (p+2)):=by
  refine rX map_drop.symm ?_;have a:=(List.getElem?_eq_some_iff.1 g);have f:=(List.getElem?_eq_some_iff.1 i);refine rX (a.2).symm (rX (f.2).symm ?_);exact rX ((getElem_cons_drop a.1).symm) (rX ((getElem_cons_drop f.1).symm) rfl)
 have d:∀n {l:List Nat} {u},ie u l->∃v,ie v (l.drop n):=by
  intro n;induction n with
  |zero=>intro l u h;exact⟨u,h⟩
  |succ n j=>
   intro l u h;cases l with
   |nil=>exact⟨u,h⟩
   |cons b l=>exact j h.hd.2
 obtain⟨v,H⟩:=d p h.ch;rw[e]at H;exact H.hd.2.hd.1
def Np{l:List Nat}(h:Mine.dO a z=true)(e:getL inner a=l)(H:aw h_ a=false):aw l z=true:=by
 have h:(match aw (getL inner a) z with|true=>true|false=>(match aw c3 z with|true=>aw h_ a|false=>false))=true:=h;rw[e,H]at h;cases E:aw l z with
 |false=>rw[E]at h;cases b:aw c3 z<;>rw[b]at h<;>exact ft h
 |true=>rfl
def px(h:Mine.dO a z=true)(e:getL inner a=[b])(H:aw h_ a=false):z=b:=by
 have h:(match Nat.beq b z with|true=>true|false=>false)=true:=Np h e H;cases E:Nat.beq b z<;>rw[E]at h
 ·exact ft h
 ·exact(lT E).symm
def Cl.o8(h:Cl K E c)(g:c.rows[p]?=some r)(i:r.ty=395)(o:∀u,Mine.dO u 901=true->aw h_ u=true):∃s z,c.rows[p+1]?=some s/\s.ty=400/\c.rows[p+2]?=some z/\z.ty=426:=by
 refine I λt=>?_
 have next:∀{q x},c.rows[q]?=some x->aw h_ x.ty=false->∃y,c.rows[q+1]?=some y:=λ{q x} w A=>by
  obtain a|f:=Nat.lt_or_ge (q+1) c.rows.length
  ·exact⟨_,dv a⟩
  ·have m:=(List.getElem?_eq_some_iff.1 w);have e:(dq c.rows).drop q=[x.ty]:=by rw[dq];refine rX map_drop.symm ?_;refine rX ((getElem_cons_drop m.1).symm) ?_;refine rX (drop_eq_nil_of_le f) ?_;refine rX m.2 ?_;rfl
   have d:∀n {l:List Nat} {u},ie u l->∃v,ie v (l.drop n):=by
    intro n;induction n with
    |zero=>intro l u h;exact⟨u,h⟩
    |succ n B=>
     intro l u h;cases l with
     |nil=>exact⟨u,h⟩
     |cons b l=>exact B h.hd.2
   obtain⟨v,j⟩:=d q h.ch;rw[e]at j;exact tf (ag (o _ j.hd.2.end) A)
 obtain⟨s,H⟩:=next g (by refine rX i ?_;kernel_rfl)
 have es:=px (b:=400) (i▸h.oH g H) (by kernel_rfl) (by kernel_rfl);obtain⟨z,k⟩:=next H (by refine rX es ?_;kernel_rfl)
 exact t (⟨s,z,H,es,k,px (es▸h.oH H k) (by kernel_rfl) (by kernel_rfl)⟩)
def Td(h:o[p]?=some (some a))(H:o[p+1]?=some (some b))(c:o[p+2]?=some (some d)):aK o (p+3)=aK o p+3:=rX (show p+3=p+2+1 from rfl) (rX (aP c) (rX (show p+2=p+1+1 from rfl) (rX (aP H) (rX (aP h) rfl))))
def BZ(h:Mine.dO u 901=true):aw h_ u=true:=by
 have h:(match aw (getL inner u) 901 with|true=>true|false=>aw h_ u)=true:=h;cases e:aw (getL inner u) 901<;>rw[e]at h
 ·exact h
 ·have k:∀l:List (Nat×List Nat),(l.all λx=>!aw x.2 901)=true->aw (getL l u) 901=false:=by
   intro l;induction l with
   |nil=>intro _;rfl
   |cons x l i=>
    intro h;show aw (match Nat.beq x.1 u with|true=>x.2|false=>getL l u) 901=false;cases Nat.beq x.1 u
    ·exact i (aA h).2
    ·exact Ee (aA h).1
  exact tf (ag e (k inner (by kernel_rfl)))
def Cl.uO(h:Cl K E c)(m:Ok c)(sc:cW V 0 c.rows o bd)(n:∀q a l o',V q a l o'->∀i,0<i->i<a.length->Mine.marked c (q+i)=false)(f:Fx K K' X bI E')(u:aw K 901=true)(g:rB c V K K' X bI)
  (H:∀(q:Nat) (r:R),c.rows[q]?=some r->(r.ty=400\/r.ty=426)->∃A,o[q]?=some (some A))(d:∀(q:Nat) (r:R),o[q]?=some (some r)->r.ty=395->∃e,c.rows[q]?=some e/\e.ty=395)
  (b:∀(p:Nat) (r:R),o[p]?=some (some r)->∀t,r.o.bo=some t->t∈bd/\t<c.rows.length/\∀s,c.rows[t]?=some s->TG E' r.ty s.ty p t):Cl K' E' (Mine.ay c o):=by
 have k:=nf (bO (bC f.Xn (h.nx u (p:=0) (a:=[]) rfl)) h.ch.f5);refine h.ay m sc n f.hK f.h0 f.h9 k g f.fx f.hE (λq v Z=>sc.heads g rfl (λx w=>h.mem w) k 900 f.h0 h.ch q v) (λp r j y=>?_) b;obtain⟨e,B,C⟩:=d p r j y;obtain⟨s,z,D,G,L,N⟩:=h.o8 B C λZ=>BZ;obtain⟨_,P⟩:=H _ _ D (.inl G);obtain⟨_,Q⟩:=H _ _ L (.inr N);exact Td j P Q
def drop_cons{l:List R}(h:l[p]?=some r):l.drop p=r::l.drop (p+1):=by
 obtain⟨H,a⟩:=List.getElem?_eq_some_iff.1 h;exact rX a.symm ((getElem_cons_drop H).symm)
inductive ym(c:PC)(w:W2)(o:List (Option R))(bd:List Nat)(q:Nat):Prop
 |keep (r):c.rows[q]?=some r->o[q]?=some (some r)->q∈bd->q+1∈bd->(∀s,c.rows[q+1]?=some s->w q r s=none)->ym c w o bd q
 |fst (r s x):c.rows[q]?=some r->c.rows[q+1]?=some s->w q r s=some x->o[q]?=some x.1->o[q+1]?=some x.2->q+1∉bd->ym c w o bd q
 |snd (p r s x):q=p+1->c.rows[p]?=some r->c.rows[p+1]?=some s->w p r s=some x->o[p+1]?=some x.2->ym c w o bd q
def gF(sc:cW (V2 w) 0 c.rows o b)(k:q<c.rows.length):ym c w o b q:=by
 refine I λz=>?_
 have A:∀Q∈b,Q<c.rows.length->(q=Q->ym c w o b q)/\(q=Q+1->q∉b->ym c w o b q):=λQ B E=>sc.at rfl rfl Q B (by rw[aD];exact E) λa l o' W=>by
  obtain⟨j,d,_,_,⟨P,m⟩,N,no⟩:=W;cases j with
  |keep r l v=>exact⟨λe=>by subst e;exact .keep r (dg d).1 (dg m).1 B N λs u=>v s (congrArg List.head? (ag (dg d).2 (drop_cons u))),λe v=>ak (e▸N) v⟩
  |dC r s l x n=>exact⟨λe=>by subst e;exact .fst r s x (dg d).1 (dg (dg d).2).1 n (dg m).1 (dg (dg m).2).1 (no 1 Nat.one_pos (ba 1)),λe Z=>.snd Q r s x e (dg d).1 (dg (dg d).2).1 n (dg (dg m).2).1⟩
 by_cases t:q∈b
 ·exact z ((A q t k).1 rfl)
 ·obtain h|⟨Q,a,l',o',i,j,rfl,f,H⟩:=sc.cover aZ (by rw[aD];exact k)
  ·exact ak h t
  ·have G:i=1:=by
    cases j with
    |keep r l=>have H:=H;exact bJ (et 74375566608 rfl H) (et 343885025552 rfl f)
    |dC r s l x n=>have H:=H;exact bJ (et 143095043344 rfl H) (et 343885025552 rfl f)
   subst G
   have y:∀{p l o b},cW (V2 w) p l o b->∀q,p<=q->q+1<p+l.length->q+1∉b->q∈b:=by
    intro p l o b h;induction h with
    |nil p=>intro q f H;exact gY (ln2 0x1501160126511011110 rfl f H)
    |cons p a l o l' b j S T u L=>
     intro q f H D;obtain e|C:=Nat.eq_or_lt_of_le f
     ·exact rX e (eE)
     rw[c9]at H;obtain g|g:=Nat.lt_or_ge q (p+a.length)
     ·exfalso;cases j with
      |keep r l=>have g:=g;exact gY (ln2 0x11506126512011110 rfl C g)
      |dC r s l x n=>
       obtain rfl:q=p+1:=bJ (ln2 9394575795160336 rfl g) (ln2 6945600786448 rfl C);exact D (fg u.lo.1)
     ·exact fg (L q g (gf 0x8706011501287600115011 rfl H) λh=>D (fg h))
   exact z ((A Q (y sc Q aZ (by rw[aD];exact k) t) (Nat.lt_of_succ_lt k)).2 rfl t)
def ui(K:List Nat)(cond:Nat->Nat->Bool):Bool:=cT (λb=>c4 (imp (dO 400 b) (imp (cond 400 b) false))<|c4 (imp (dO 426 b) (imp (cond 426 b) false))<|c4 (imp (dO b 400) (imp (cond b 400) false)) (imp (dO b 426) (imp (cond b 426) false))) K
section
variable{cond:Nat->Nat->Bool}
structure P2(c:PC)(w:W2)(K K' X bI:List Nat)(E E':Nat->Nat->Bool)(cond mE:Nat->Nat->Bool)(outs:Nat->Nat->List (List Nat)):Prop where
 f:Fx K K' X bI E'
 h9:aw K 901=true
 lC:lr K K' X bI cond mE outs=true
 no:ui K cond=true
 hm:∀p r s x,w p r s=some x->marked c (p+1)=false
 hf:∀p r s x,c.rows[p]?=some r->c.rows[p+1]?=some s->w p r s=some x->cond r.ty s.ty=true/\dI [x.1,x.2]∈outs r.ty s.ty
 mu:∀p r s,c.rows[p]?=some r->c.rows[p+1]?=some s->mE r.ty s.ty=true->w p r s=none->False
 h3:∀p r s x,w p r s=some x->∀r',(x.1=some r'->r'.ty=395->r.ty=395)/\(x.2=some r'->r'.ty≠395)
def RU(h:imp (dO b d) (imp (cond b d) false)=true)(H:dO b d=true)(a:cond b d=true):False:=nomatch ag (nf (bO h H)) a
def P2.Zk(P:P2 c w K K' X bI E E' cond mE outs)(h:Cl K E c)(b:c.rows[p]?=some r)(d:c.rows[p+1]?=some s)(f:w p r s=some x):r.ty≠400/\r.ty≠426/\s.ty≠400/\s.ty≠426:=by
 have H:=(P.hf p r s x b d f).1;have a:=h.oH b d;refine⟨λe=>?_,λe=>?_,λe=>?_,λe=>?_⟩
 ·rw[e]at a H;exact RU (aG (bC P.no (h.ty _ _ d))).1 a H
 ·rw[e]at a H;exact RU (aG (aG (bC P.no (h.ty _ _ d))).2).1 a H
 ·rw[e]at a H;exact RU (aG (aG (aG (bC P.no (h.ty _ _ b))).2).2).1 a H
 ·rw[e]at a H;exact RU (aG (aG (aG (bC P.no (h.ty _ _ b))).2).2).2 a H
def m_(c:PC)(b:List Nat)(e:Nat->Nat->Bool)(p:Nat)(r:R):Prop:=∀t,r.o.bo=some t->t∈b/\t<c.rows.length/\∀s,c.rows[t]?=some s->TG e r.ty s.ty p t
def Iw(P:P2 c w K K' X bI E E' cond mE outs)(h:Cl K E c)(m:Ok c)(sc:cW (V2 w) 0 c.rows o bd)
 (n:∀p r,c.rows[p]?=some r->o[p]?=some (some r)->m_ c bd E' p r)
 (k:∀p r s x,c.rows[p]?=some r->c.rows[p+1]?=some s->w p r s=some x->∀d,(x.1=some d->o[p]?=some (some d)->m_ c bd E' p d)/\(x.2=some d->o[p+1]?=some (some d)->m_ c bd E' (p+1) d)):Cl K' E' (ay c o):=by
 have l:∀{q x},o[q]?=some x->q<c.rows.length:=λh=>by exact rX (sc.len).symm (cu h)
 refine h.uO m sc (tZ P.hm) P.f P.h9 (Zj h P.h9 P.lC P.hf P.mu) (λq r b j=>?_) (λq r b j=>?_) (λq r b=>?_)
 ·cases gF sc (cu b)with
  |keep d a H _ _ _=>exact⟨_,H⟩
  |fst d s x a H g i _ _=>
   obtain rfl:=aj (ag b a);obtain⟨N,t,_⟩:=P.Zk h a H g;exact j.elim (λe=>ak e N) λe=>ak e t
  |snd p d s x e a H g i=>
   subst e;obtain rfl:=aj (ag b H);exact j.elim (λe=>ak e ((P.Zk h a H g).2.2.1)) λe=>ak e ((P.Zk h a H g).2.2.2)
 ·cases gF sc (l b)with
  |keep d a H _ _ _=>obtain rfl:=aj (aj (ag b H));exact⟨_,a,j⟩
  |fst d s x a H g i _ _=>exact⟨_,a,(P.h3 _ _ _ _ g r).1 (aj (ag i b)) j⟩
  |snd p d s x e a H g i=>
   subst e;exact ak j ((P.h3 _ _ _ _ g r).2 (aj (ag i b)))
 ·cases gF sc (l b)with
  |keep d a H _ _ _=>obtain rfl:=aj (aj (ag b H));exact n q r a H
  |fst d s x a H g i _ _=>exact(k _ _ _ _ a H g r).1 (aj (ag i b)) b
  |snd p d s x e a H g i=>
   subst e;exact(k _ _ _ _ a H g r).2 (aj (ag i b)) b
def Cl.row(h:Cl K E c)(o:Ok c)(b:∀t,Mine.marked c t=true->t<c.rows.length->t∈bd)(H:c.rows[p]?=some r):m_ c bd E p r:=λt a=>
 ⟨b t (dn H a) (o.t r (gh H) t a),(o.t r (gh H) t a),λs d=>h.tg p r t s H a d⟩
def El(h:Cl K bL c)(H:c.rows[q]?=some s)(a:aw c3 s.ty=false):marked c q=false:=by
 cases b:marked c q with
 |false=>rfl
 |true=>exact(h.marked b H).elim (λh=>ft (ag a h)) λ⟨_,h⟩=>ft h
end
noncomputable def fZ:List Nat:=[18,35,432,451]
noncomputable def KC:List Nat:=[900,901,0,1,2,3,6,7,9,13,14,15,18,32,33,34,35,96,98,147,149,167,210,235,346,266,363,368,395,400,426,432,451]
def K2:List Nat:=64::65::66::68::87::120::137::185::201::304::331::KC
def K3:List Nat:=231::327::K2
def K4:List Nat:=120::137::185::201::304::331::KC
def K6:List Nat:=120::304::331::KC
def K7:List Nat:=120::330::KC
def K8:List Nat:=231::K7
def KT:List Nat:=330::KC
def KU:List Nat:=231::KT
section
variable{r:R}
def jo(a b:Nat):Bool:=c4 (dY [0,1,2,4,8] a) (dY [7] b)
def bR(h:aw l r.o.kd=true):dY l r.ty=true:=by unfold dY;rw[jn];exact h
def nc(h:dY l r.ty=true):aw l r.o.kd=true:=by unfold dY at h;rwa[jn]at h
def lu(h:a=true)(H:b=true):c4 a b=true:=by subst h;exact H
def GD{f:Nat->Bool}(h:cT (λz=>imp (f z) (imp (aw c3 z) false)) K=true)(H:aw K z=true)(a:f z=true):aw c3 z=false:=nf (bO (bC h H) a)
def wo(h:x=(none,none))(a:R):(x.1=some a->P)/\(x.2=some a->Q):=by subst h;exact⟨λh=>nn h,λh=>nn h⟩
def Te(h:Cl K bL c)(f:Fx K K' [87,231,327] fZ bL)(h9:aw K 901=true)(h1:lr K K' [87,231,327] fZ jo jo (λZ Z=>[[]])=true)(h2:ui K jo=true)(h3:cT (λz=>imp (dY [7] z) (imp (aw c3 z) false)) K=true):P2 c (j0 (marked c)) K K' [87,231,327] fZ bL bL jo jo (λZ Z=>[[]]) where
 f:=f
 h9:=h9
 lC:=h1
 no:=h2
 hm p r s x h:=(dG h).m
 hf p r s x _ _ h:=by
  have h:=dG h;exact rX h.a (⟨lu (bR h.r) (bR (rX h.s rfl)),lB rfl⟩)
 mu p r s e1 e2 hm hn:=by
  obtain⟨m1,m2⟩:=aG hm;have:=El h e2 (GD h3 (h.ty _ _ e2) m2);unfold j0 at hn;exact nn (this▸(show s.o.gn=true from nc m2)▸(show r.o.isPlain=true from nc m1)▸hn).symm
 h3 p r s x h r':=wo (dG h).a r'
def Tf(h:Cl K bL c)(d:Ok c)(P:P2 c (j0 (marked c)) K K' [87,231,327] fZ bL bL jo jo (λZ Z=>[[]])):Cl K' bL (dE c):=by
 obtain⟨o,B,e,sc⟩:=c8 BQ;unfold dE;exact rX e (Iw P h d sc (λp r H Z=>h.row d (λt a b=>sc.h7 (tZ P.hm) a b) H) λp r s x Z Z f g=>wo (dG f).a g)
def ij(h:c4 (GC K' K) (c4 (aw K 900) (c4 (imp (aw bI 901) false) (c4 (aw bI 18) (c4 (aw bI 35) (c4 (aw bI 432) (c4 (aw bI 451) (c4 (imp (aw X 900) false) (cT (λz=>imp (dO 900 z) (imp (aw X z) false)) K))))))))=true):Fx K K' X bI bL:=
 let⟨a,h⟩:=aG h
 let⟨b,h⟩:=aG h
 let⟨d,h⟩:=aG h
 let⟨e,h⟩:=aG h
 let⟨f,h⟩:=aG h
 let⟨g,h⟩:=aG h
 let⟨i,h⟩:=aG h
 let⟨j,h⟩:=aG h
 ⟨zL a,b,nf d,⟨e,f,g,i⟩,λZ Z h=>ft h,nf j,h⟩
def tP1:c4 (lr K3 K4 [87,231,327] fZ jo jo (λZ Z=>[[]])) (c4 (ui K3 jo) (cT (λz=>imp (dY [7] z) (imp (aw c3 z) false)) K3))=true:=by kernel_rfl
def Zl(h:Cl K3 bL c)(o:Ok c):Cl K4 bL (dE c):=
 let⟨a,b⟩:=aG tP1
 let⟨d,e⟩:=aG b
 Tf h o (Te h (ij (by kernel_rfl)) (by kernel_rfl) a d e)
def tP2:c4 (lr K8 K7 [87,231,327] fZ jo jo (λZ Z=>[[]])) (c4 (ui K8 jo) (cT (λz=>imp (dY [7] z) (imp (aw c3 z) false)) K8))=true:=by kernel_rfl
def Nr(h:Cl K8 bL c)(o:Ok c):Cl K7 bL (dE c):=
 let⟨a,b⟩:=aG tP2
 let⟨d,e⟩:=aG b
 Tf h o (Te h (ij (by kernel_rfl)) (by kernel_rfl) a d e)
end
section
variable{r:R}
def Cl.mono(h:Cl K E c)(H:GC K K'=true):Cl K' E c:=⟨λp r a=>zL H _ (h.ty p r a),h.ch,h.tg,h.ca,h.st⟩
def ng(a b:Nat):Bool:=c4 (dY [8,9] a) (dY [9] b)
def B0(a _:Nat):List (List Nat):=match dY [9] a with|true=>[[]]|false=>[[a]]
def eD{P:Prop}(h:a=b)(e:Nat.beq a b=false):P:=by subst h;exact ft (ag e (Nat.beq_refl a))
def abc(h:Cl K bL c)(ok:Ok c)(f:Fx K K' [137,201] fZ bL)(h9:aw K 901=true)(h1:lr K K' [137,201] fZ ng ng B0=true)(h2:ui K ng=true)(h3:cT (λz=>imp (dY [9] z) (imp (aw c3 z) false)) K=true):Cl K' bL (gb c):=by
 obtain⟨o,bd,e,sc⟩:=c8 Eh;unfold gb;refine rX e ?_
 have P:P2 c (ku (marked c)) K K' [137,201] fZ bL bL ng ng B0:={
  f:=f
  h9:=h9
  lC:=h1
  no:=h2
  hm:=λp r s x h=>(dH h).m
  hf:=λp r s x Z Z h=>by
   have h:=dH h;have e2:dY [9] s.ty=true:=bR (rX h.s rfl);obtain⟨e,h5⟩|⟨e,h5⟩:=h.a<;>refine rX h5 ?_
   ·exact⟨lu (bR (rX e rfl)) e2,by unfold B0;exact rX (bR (rX e rfl)) (lB rfl)⟩
   ·refine⟨lu (bR (rX e rfl)) e2,?_⟩;unfold B0;exact rX (show dY [9] r.ty=false by unfold dY;rw[jn];refine rX e ?_;rfl) (lB rfl)
  mu:=λp r s e1 e2 hm hn=>by
   obtain⟨m1,m2⟩:=aG hm;have m3:s.o.cY=true:=nc m2;have m1:=nc m1;unfold ku at hn;have hn:=(El h e2 (GD h3 (h.ty _ _ e2) m2))▸m3▸hn;cases e4:r.o.cY<;>have hn:=e4▸hn
   ·have e5:r.o.fB=true:=by
     have m1:(match Nat.beq 8 r.o.kd with|true=>true|false=>r.o.cY)=true:=m1;cases e6:Nat.beq 8 r.o.kd<;>rw[e6]at m1
     ·exact ft (ag e4 m1)
     ·show(match Nat.beq 8 r.o.kd with|true=>true|false=>false)=true;exact rX e6 rfl
    rw[e5]at hn;exact nn hn.symm
   ·exact nn hn.symm
  h3:=λp r s x h r'=>by
   obtain⟨e,h5⟩|⟨e,h5⟩:=(dH h).a<;>refine rX h5 ?_
   ·exact⟨λh=>nn h,λh=>nn h⟩
   ·exact⟨λh ht=>by obtain rfl:=aj h;exact ht,λh=>nn h⟩}
 have hr:∀p r,c.rows[p]?=some r->m_ c bd bL p r:=λp r h1=>h.row ok (λt a b=>sc.h7 (tZ P.hm) a b) h1;refine Iw P h ok sc (λp r h1 Z=>hr p r h1) λp r s x h1 Z hx r'=>?_;obtain⟨e,h5⟩|⟨e,h5⟩:=(dH hx).a<;>refine rX h5 ?_
 ·exact⟨λh=>nn h,λh=>nn h⟩
 ·exact⟨λh Z=>by obtain rfl:=aj h;exact hr p r h1,λh=>nn h⟩
def tW1:c4 (lr K4 K6 [137,201] fZ ng ng B0) (c4 (ui K4 ng) (cT (λz=>imp (dY [9] z) (imp (aw c3 z) false)) K4))=true:=by kernel_rfl
def Zm(h:Cl K4 bL c)(o:Ok c):Cl K6 bL (gb c):=
 let⟨a,b⟩:=aG tW1
 let⟨d,e⟩:=aG b
 abc h o (ij (by kernel_rfl)) (by kernel_rfl) a d e
def l3(a b:Nat):Bool:=c4 (dY [11] a) (dY [10] b)
noncomputable def RV(_ _:Nat):Bool:=false
noncomputable def yn(a _:Nat):List (List Nat):=[[a]]
def km(h:∃b t,r.o=.br b t):(⟨.br b l,r.g⟩:R).ty=r.ty:=by obtain⟨_,_,h⟩:=h;unfold R.ty;exact rX h rfl
def Th(h:Cl K bL c)(ok:Ok c)(f:Fx K K [] fZ bL)(h9:aw K 901=true)(h1:lr K K [] fZ l3 RV yn=true)(h2:ui K l3=true):Cl K bL (cI c):=by
 obtain⟨o,bd,e,sc⟩:=c8 Ei;unfold cI;refine rX e ?_
 have P:P2 c (fy (marked c)) K K [] fZ bL bL l3 RV yn:={
  f:=f
  h9:=h9
  lC:=h1
  no:=h2
  hm:=λp r s x h=>let⟨_,_,h⟩:=cJ h;h.m
  hf:=λp r s x Z Z h=>by
   obtain⟨b,l,h⟩:=cJ h;refine⟨lu (bR (rX h.br rfl)) (bR (rX h.s rfl)),?_⟩;exact rX h.a (lB (congrArg (λn=>[n]) (km ⟨_,_,h.br⟩)))
  mu:=λp r s Z Z h Z=>ft h
  h3:=λp r s x h r'=>by
   obtain⟨b,l,h⟩:=cJ h;exact rX h.a (⟨λe ht=>by obtain rfl:=aj e;exact ag (km ⟨_,_,h.br⟩) ht,λh=>nn h⟩)}
 have hr:∀p r,c.rows[p]?=some r->m_ c bd bL p r:=λp r h1=>h.row ok (λt a b=>sc.h7 (tZ P.hm) a b) h1;refine Iw P h ok sc (λp r h1 Z=>hr p r h1) λp r s x h1 h2 hx r'=>?_;obtain⟨b,l,hw⟩:=cJ hx;refine rX hw.a ?_;refine⟨λe Z t ht=>?_,λh=>nn h⟩;obtain rfl:=aj e;obtain rfl:=aj ht;obtain⟨a1,a2,a3⟩:=hr _ _ h2 l (rX hw.s rfl);refine⟨a1,a2,λz hz=>?_⟩;refine rX (km ⟨_,_,hw.br⟩) ?_;refine⟨((a3 z hz).1),((a3 z hz).2.1).imp_left Nat.lt_of_succ_lt,λe=>?_,λe=>?_⟩
 ·have h4:=px (b:=400) (e▸h.oH h1 h2) (by kernel_rfl) (by kernel_rfl);have:=ag (jn s) (congrArg (·%16) h4);rw[hw.s]at this;exact eD this (by kernel_rfl)
 ·have:=ag (jn r) (congrArg (·%16) e);rw[hw.br]at this;exact eD this (by kernel_rfl)
def tU7:c4 (lr K7 K7 [] fZ l3 RV yn) (ui K7 l3)=true:=by kernel_rfl
def Zn(h:Cl K7 bL c)(o:Ok c):Cl K7 bL (cI c):=
 let⟨a,b⟩:=aG tU7
 Th h o (ij (by kernel_rfl)) (by kernel_rfl) a b
def Nt(K bI:List Nat):Bool:=cT (λa=>cT (λz=>imp (dO a z) (imp (aw c3 z) (c4 (match dY [10] a with|true=>(match Nat.beq a 426 with|true=>true|false=>BY K K [] bI [a] [] z)|false=>true) (imp (dY [11] a) (BY K K [] bI [a] [a-4] z))))) K) K
def zM(h:a≠b):Nat.beq a b=false:=by
 cases e:Nat.beq a b with
 |false=>rfl
 |true=>exact ak (lT e) h
def Nu(h:Cl K bL c)(z:Ok c)(f:Fx K K [] fZ bL)(D:aw K 901=true)(P:Nt K fZ=true):Cl K bL (cQ c):=by
 obtain⟨Y,sc⟩:=BO bh c.rows 0
 have N:∀{p:Nat} {r s:R},c.rows[p]?=some r->c.rows[p+1]?=some s->r.o.bo=some (p+1)->r.ty≠426:=λ{p r s} d G k e=>by
  have T:=px (b:=432) (e▸h.oH d G) (by kernel_rfl) (by kernel_rfl);have:=(h.tg _ _ _ _ d k G).2.2.2 e;rw[T]at this;exact eD this (by kernel_rfl)
 have A:∀{p:Nat} {r:R},c.rows[p]?=some r->r.o.bo=some (p+1)->∃s,c.rows[p+1]?=some s/\aw c3 s.ty=true:=λ{p r} d G=>by
  have H:c.rows[p+1]?=some (c.rows[p+1]'(z.t r (gh d) _ G)):=dv _;exact⟨_,H,(h.tg _ _ _ _ d G H).1.elim id λh=>ft h⟩
 have m:∀{p:Nat} {r:R},c.rows[p]?=some r->r.o=.aM (p+1)->r.ty≠426:=λd G=>by
  obtain⟨s,H,_⟩:=A d (rX G rfl);exact N d H (rX G rfl)
 refine h.uO z sc BR f D (λp a l o u Q B V Z W X=>?_) (λq r d G=>?_) (λq r d G=>?_) (λq r d=>?_)
 ·cases Q with
  |mk r l=>
   have d:=(dg B).1;have C:∀{s},c.rows[p+1]?=some s->aw c3 s.ty=true->f5 (dq l)=s.ty->_:=λ{s} G k v=>bO (bO (bC (bC P (h.ty _ _ d)) (h.ty _ _ G)) (h.oH d G)) k
   have L:∀{s},c.rows[p+1]?=some s->f5 (dq l)=s.ty:=λ{s} G=>by
    have:=(dg B).2;cases l with
    |nil=>have e:=List.getElem?_drop (xs:=c.rows) (i:=p+1) (j:=0);have e:=G▸this▸e;exact nn e
    |cons x l=>rw[(dg this).1]at G;obtain rfl:=aj G;rfl
   obtain⟨_,e⟩|⟨E,e⟩|⟨b,E,e⟩:=cf p r<;>refine rX e ?_
   ·exact zK (h.ty _ _ d) rfl
   ·obtain⟨s,H,k⟩:=A d (rX E rfl);have w:=(aG (C H k (L H))).1;have w:=(zM (m d E))▸(show dY [10] r.ty=true from bR (rX E rfl))▸w;exact rX (L H) (rC w (aN _ _))
   ·obtain⟨s,H,k⟩:=A d (rX E rfl);exact rX (L H) (rX (show dI [some (⟨.pop,r.g⟩:R)]=[r.ty-4] from congrArg (λn=>[n]) (show r.g*16+7=r.g*16+r.o.kd-4 by exact rX E rfl)) (rC (bO (aG (C H k (L H))).2 (bR (rX E rfl))) (aN _ _)))
 ·obtain⟨_,e⟩|⟨E,e⟩|⟨b,E,e⟩:=cf q r
  ·exact⟨_,(bN d).trans (congrArg some e)⟩
  ·obtain G|G:=G
   ·have:=ag (jn r) (congrArg (·%16) G);rw[E]at this;exact eD this (by kernel_rfl)
   ·exact ak G (m d E)
  ·exact⟨_,(bN d).trans (congrArg some e)⟩
 ·obtain⟨y,k,v⟩:=eB d;obtain⟨_,e⟩|⟨E,e⟩|⟨b,E,e⟩:=cf q y<;>rw[e]at v<;>cases v
  ·exact⟨_,k,G⟩
  ·have:=ag (jn ⟨.pop,y.g⟩) (congrArg (·%16) G);exact eD this (by kernel_rfl)
 ·obtain⟨y,k,v⟩:=eB d;obtain⟨_,e⟩|⟨E,e⟩|⟨b,E,e⟩:=cf q y<;>rw[e]at v<;>cases v
  ·exact h.row z (λt a b=>sc.h7 BR a b) k
  ·exact λt S=>nn S
end
def t6(d:Ok c)(h:Reach c p):marked c p=true\/∃q,p=q+1/\Reach c q:=by
 refine I λa=>?_;cases h with
 |start h=>exact a (.inl (fX h))
 | @step q p b H=>
  have f:c.rows[q]?=some (c.rows[q]'(b.lt d)):=dv _;unfold eJ at H;rw[f]at H;obtain H|H:=iZ H
  ·obtain H|H:=iZ H
   ·exact a (.inl (dn f (Option.mem_toList.1 H)))
   ·cases e:(c.rows[q]'(b.lt d)).o.bZ<;>rw[e]at H
    ·exact a (.inr ⟨q,d5 H,b⟩)
    ·exact ak H d6
  ·obtain⟨k,g,e⟩:=i4 H;exact a (.inl (e▸fW (mem_filter.1 g).1))
def nh(h:aw c3 b=true)(H:aw h_ u=true):dO u b=true:=by
 show(match aw (getL inner u) b with|true=>true|false=>(match aw c3 b with|true=>aw h_ u|false=>false))=true;refine rX h (rX H ?_);cases aw (getL inner u) b<;>rfl
def Cl.inner(h:Cl K bL c)(o:Ok c)(H:c.rows[p]?=some r)(d:aw c3 r.ty=false)(e:Reach c p):∃q s,p=q+1/\Reach c q/\c.rows[q]?=some s/\dO s.ty r.ty=true:=by
 refine I λk=>?_;obtain f|⟨q,rfl,a⟩:=t6 o e
 ·exact tf (ag f (El h H d))
 ·have b:c.rows[q]?=some (c.rows[q]'(a.lt o)):=dv _;exact k (⟨q,_,rfl,a,b,h.oH b H⟩)
def pre_of(h:cT (λa=>imp (dO a z) (Nat.beq a b)) K=true)(c:aw K a=true)(H:dO a z=true):a=b:=lT (bO (bC h c) H)
def Cl.o4(h:Cl K bL c)(b:Ok c)(k:cT (λa=>imp (dO a 426) (Nat.beq a 400)) K=true)(k2:cT (λa=>imp (dO a 400) (Nat.beq a 395)) K=true)(l:c.rows[p]?=some r)(f:r.ty=426)(m:Reach c p):Reach c (p+1):=by
 refine I λn=>?_;obtain⟨q,s,rfl,v,g,w⟩:=h.inner b l (by refine rX f ?_;kernel_rfl) m;have E:=pre_of k (h.ty _ _ g) (f▸w);obtain⟨q,z,rfl,x,H,y⟩:=h.inner b g (by refine rX E ?_;kernel_rfl) v;have i:=pre_of k2 (h.ty _ _ H) (E▸y);have j:z.o.kd=11:=by rw[<-jn,i]
 have A:∃u,z.o.bo=some u:=by cases e:z.o<;>rw[e]at j<;>first|exact⟨_,rfl⟩|exact eD j (by kernel_rfl)
 obtain⟨u,d⟩:=A;have:=((h.tg _ _ _ _ H d (dv (b.t z (gh H) u d))).2.2.1 i).2;exact n (rX (this.symm) (x.bo H d))
abbrev KD(K:List Nat):Prop:=(cT (λa=>imp (dO a 426) (Nat.beq a 400)) K=true)/\(cT (λa=>imp (dO a 400) (Nat.beq a 395)) K=true)/\cT (λa=>imp (dY [10,13,15] a) (match Nat.beq a 426 with|true=>true|false=>aw h_ a)) K=true
def Em(h:c4 (cT (λa=>imp (dO a 426) (Nat.beq a 400)) K) (c4 (cT (λa=>imp (dO a 400) (Nat.beq a 395)) K) (cT (λa=>imp (dY [10,13,15] a) (match Nat.beq a 426 with|true=>true|false=>aw h_ a)) K))=true):KD K:=
 let⟨a,b⟩:=aG h
 let⟨d,e⟩:=aG b
 ⟨a,d,e⟩
def Zo(c:PC)(p u:Nat):Prop:=(dO u (f5 (dq (c.rows.drop p)))=true/\((p=0/\u=900)\/∃q r,p=q+1/\c.rows[q]?=some r/\u=r.ty/\Reach c q))\/(aw h_ u=true/\∃q,p=q+1/\¬Reach c q)
def Cl.Ti(h:Cl K bL c)(f:Ok c)(k:KD K)(H:c.rows[p]?=some r)(b:Reach c p)(d:¬Reach c (p+1)):aw h_ r.ty=true:=by
 have g:r.o.bZ=true:=by
  cases e:r.o.bZ
  ·exact ak (b.eR H e) d
  ·rfl
 have a:=bO (bC k.2.2 (h.ty _ _ H)) (bR g);cases e:Nat.beq r.ty 426 with
 |false=>have a:=e▸a;exact a
 |true=>exact ak (h.o4 f k.1 k.2.1 H (lT e) b) d
def chD(h:Cl K bL c)(o:Ok c)(k:KD K):∀n p u,c.rows.length<=p+n->Zo c p u->ie u (dI ((cc c (ck c)).drop p)):=by
 intro n;induction n with
 |zero=>
  intro p u d j;have d:c.rows.length<=p:=d;refine rX (drop_eq_nil_of_le (rX cO d)) ?_;refine .nil _ ?_;obtain⟨H,_⟩|⟨H,_⟩:=j
  ·rw[drop_eq_nil_of_le d]at H;exact H
  ·exact nh (by kernel_rfl) H
 |succ n t=>
  intro p u d j;obtain l|a:=Nat.lt_or_ge p c.rows.length
  case inr=>
   refine rX (drop_eq_nil_of_le (rX cO a)) ?_;refine .nil _ ?_;obtain⟨H,_⟩|⟨H,_⟩:=j
   ·rw[drop_eq_nil_of_le a]at H;exact H
   ·exact nh (by kernel_rfl) H
  have i:=dv l
  have y:(cc c (ck c)).drop p=ck c p c.rows[p]::(cc c (ck c)).drop (p+1):=by
   have H:=bN (f:=ck c) i;obtain⟨a1,a2⟩:=List.getElem?_eq_some_iff.1 H;exact rX a2.symm ((getElem_cons_drop a1).symm)
  refine rX y ?_;by_cases g:Reach c p
  ·refine rX (jM g) ?_;refine .cons _ _ _ ?_ (t (p+1) _ (bX 0x117060511711600510 rfl d) (.inl ⟨?_,.inr ⟨p,_,rfl,i,rfl,g⟩⟩))
   ·obtain⟨H,_⟩|⟨H,q,rfl,v⟩:=j
    ·rw[drop_cons i]at H;exact H
    ·obtain w|⟨Q,e,m⟩:=t6 o g
     ·exact nh ((h.marked w i).elim id λ⟨_,h⟩=>ft h) H
     ·cases e;exact ak m v
   ·obtain b|a:=Nat.lt_or_ge (p+1) c.rows.length
    ·exact rX (drop_cons (dv b)) (h.oH i (dv b))
    ·refine rX (drop_eq_nil_of_le a) ?_;refine nh (by kernel_rfl) (h.Ti o k i g λh=>?_);exact ak (h.lt o) (Nat.not_lt.2 a)
  ·have e:ck c p c.rows[p]=none:=by
    cases e:ck c p c.rows[p]with
    |none=>rfl
    |some s=>exact ak (eW e).1 g
   refine rX e ?_;refine t (p+1) u (bX 0x117060511711600510 rfl d) (.inr ⟨?_,p,rfl,g⟩);obtain⟨_,⟨rfl,rfl⟩|⟨q,r,rfl,G,rfl,x⟩⟩|⟨H,_⟩:=j
   ·kernel_rfl
   ·exact h.Ti o k G x g
   ·exact H
def Nv(h:Cl K bL c)(w:Ok c)(k:KD K):Cl K bL (cR c):=by
 show Cl K bL (ay c (cc c (ck c)))
 have v:∀{q s},(cc c (ck c))[q]?=some (some s)->Reach c q/\c.rows[q]?=some s:=λh=>by
  obtain⟨r,i,d⟩:=eB h;obtain⟨f,rfl⟩:=eW d;exact⟨f,i⟩
 have A:∀{t s},Reach c t->(ay c (cc c (ck c))).rows[aK (cc c (ck c)) t]?=some s->∃S,c.rows[t]?=some S/\s.ty=S.ty:=λ{t s} y H=>by
  obtain⟨S,i,d⟩:=rA w y;rw[bT d]at H;obtain rfl:=aj H;exact⟨S,i,aH _ _⟩
 refine⟨λq r z=>?_,?_,λq r u s z L H=>?_,λk' N s H=>?_,λx B s H=>?_⟩
 ·obtain⟨p,r,j,_,rfl⟩:=cU z;rw[aH];exact h.ty p r (v j).2
 ·have e:dq (ay c (cc c (ck c))).rows=dI (cc c (ck c)):=by
   show(((cc c (ck c)).filterMap id).map (cA _)).map R.ty=_;exact rX map_map (map_congr_left λr Z=>aH _ r)
  exact rX e (chD h w k c.rows.length 0 900 (a5 c.rows.length 0) (.inl ⟨h.ch.f5,.inl ⟨rfl,rfl⟩⟩))
 ·obtain⟨p,r,j,rfl,rfl⟩:=cU z;obtain⟨t,y,rfl⟩:=fY L;obtain⟨i,d⟩:=v j;obtain⟨S,f,l⟩:=A (i.bo d y) H;obtain⟨Q,T,V,W⟩:=h.tg p r t S d y f;rw[aH];refine rX l ?_;refine⟨Q,T.imp_left λg=>i7 (by exact rX (aP j) (ba _)) (eT g),λe=>?_,W⟩;obtain⟨X,rfl⟩:=V e;refine⟨X,?_⟩;obtain⟨a,b,Y,k2,k3,k4⟩:=h.o8 d e λZ=>BZ
  have E:∀{x:R} {n},x.ty=n->dY [10,13,15] n=false->x.o.bZ=false:=λ{x n} B P=>by
   cases e:x.o.bZ with
   |false=>rfl
   |true=>exact tf (ag (bR e) (B▸P))
  have G:=i.eR d (E e (by kernel_rfl));obtain⟨_,_,l1⟩:=rA w G;obtain⟨_,_,l2⟩:=rA w (G.eR Y (E k2 (by kernel_rfl)));exact Td j l1 l2
 ·obtain⟨k,D,rfl,C⟩:=m6 N;obtain⟨S,f,l⟩:=A (zI D C) H;exact rX l (h.ca k D S f)
 ·obtain⟨x0,m,rfl⟩:=i4 B;obtain⟨S,f,l⟩:=A (.start m) H;exact rX l (h.st x0 m S f)
section
variable{c:PC}{p:Nat}{r:R}
abbrev oI(E:Nat->Nat->Bool):Prop:=(∀a b,E a b=true->aw c3 a=false)/\∀a b,E a b=true->dY [10,13] b=false
def fL:oI bL:=⟨λZ Z h=>ft h,λZ Z h=>ft h⟩
def qC(h:c.rows[p]?=some r)(H:r.o.isJ=false):fp c.rows p=none:=by
 unfold fp;refine rX h ?_;cases e:r.o.jt with
 |none=>exact e
 |some t=>have:=nZ r.o;rw[e,H]at this;exact tf this
def lQ(h:c.rows[p]?=some r)(H:r.o.isJ=true):∃t,r.o=.aM t/\fp c.rows p=some t:=by
 unfold fp;refine rX h ?_;cases e:r.o.jt with
 |none=>have:=nZ r.o;rw[e,H]at this;exact ft this
 |some t=>exact⟨t,ip e,e⟩
def qD(h:fp c.rows p=none):lh c.rows d (k+1) p=p:=by
 show(match fp c.rows p with|some u=>lh c.rows d k u|none=>p)=p;exact rX h rfl
def Nw(h:fp c.rows p=some t):lh c.rows d (k+1) p=lh c.rows d k t:=by
 show(match fp c.rows p with|some u=>lh c.rows d k u|none=>p)=_;exact rX h rfl
inductive Ny(c:PC)(f u:Nat):Prop|mk(u0:∃s,c.rows[u]?=some s/\s.o.isJ=false/\aw c3 s.ty=true/\(f<=u\/s.ty=18)):Ny c f u
def zN(h:r.ty=18):r.o.isJ=false:=by
 cases e:r.o.isJ with
 |false=>rfl
 |true=>exact tf (ag (bR e) (by refine rX h ?_;kernel_rfl))
def B1(h:Cl K E c)(m:Ok c)(n:oI E)(d:Nat):∀k f s,c.rows[f]?=some s->aw c3 s.ty=true->c.rows.length+1<=k+f->Ny c f (lh c.rows d k f):=by
 intro k;induction k with
 |zero=>intro f s H _ i;have:=(cu H);exact gY (ln2 0x56126010115011011110 rfl i this)
 |succ k B=>
  intro f s H l i;cases j:s.o.isJ with
  |false=>exact rX (qD (qC H j)) (⟨s,H,j,l,.inl di⟩)
  |true=>
   obtain⟨t,u,v⟩:=lQ H j;refine rX (Nw v) ?_;have a:s.o.bo=some t:=by exact rX u rfl
   have b:c.rows[t]?=some (c.rows[t]'(m.t s (gh H) t a)):=dv _;have e:=(h.tg f s t _ H a b).1;have G:=(h.tg f s t _ H a b).2.1;have e:=e.elim id λg=>tf (ag l (n.1 _ _ g));obtain G|G:=G
   ·obtain⟨z,w,x,y,A⟩:=B t _ b e (gf 0x7812811600115011760115010 rfl i G);exact⟨z,w,x,y,A.imp_left λh=>bt (a_ G) h⟩
   ·cases k with
    |zero=>have:=(cu H);exact gY (ln2 0x56126110100115011011110 rfl i this)
    |succ k=>exact rX (qD (qC b (zN G))) (⟨_,b,zN G,e,.inr G⟩)
def kb(h:c.rows[t]?=some s)(H:s.o.isJ=false):toEnd c t=t:=by
 unfold toEnd;obtain⟨n,a⟩:∃n,c.rows.length=n+1:=⟨c.rows.length-1,(Nat.sub_add_cancel (Nat.zero_lt_of_lt ((cu h)))).symm⟩;exact rX a (qD (qC h H))
def rD(h:r.o.isJ=true):dY [10] r.ty=true:=bR h
theorem Cl.toEnd(h:Cl K E c)(k:Ok c)(f:oI E)(l:c.rows[p]?=some r)(m:r.o.bo=some t):∃s,c.rows[Mine.toEnd c t]?=some s/\s.o.isJ=false/\s.o.g8=false/\TG E r.ty s.ty p (Mine.toEnd c t):=by
 refine I λv=>?_;have C:=k.t r (gh l) t m;have b:=dv C;have g:=h.tg p r t _ l m b
 have N:∀{s:R},(aw c3 s.ty=true\/E r.ty s.ty=true)->s.o.g8=false:=λ{s} H=>by
  cases e:s.o.g8 with
  |false=>rfl
  |true=>
   have j:=bR e;obtain H|H:=H
   ·have i:cT (λa=>imp (dY [13] a) false) c3=true:=by kernel_rfl
    exact ft (bO (bC i H) j)
   ·have D:=bR (show aw [10,13] s.o.kd=true by exact rX (sZ e) rfl);exact tf (ag D (f.2 _ _ H))
 cases d:c.rows[t].o.isJ with
 |false=>exact v (rX (kb b d) (⟨_,b,d,N g.1,g⟩))
 |true=>
  have G:=g.1;have G:=G.elim id λg=>tf (ag (bR (by obtain⟨u,i,_⟩:=lQ b d;exact rX i rfl)) (f.2 _ _ g));have x:=g.2.1.elim id λe=>tf (ag d (zN e));obtain⟨s,j,z,w,A⟩:=B1 h k f t c.rows.length t _ b G (iC (ar _ _) (bg x _));have B:∀{n},c.rows[t].ty=n->dY [10] n=false->False:=λ{n} e y=>tf (ag (rD d) (rX e y));exact v (⟨s,j,z,N (.inl w),.inl w,A.imp_left λh=>by have:t<=Mine.toEnd c t:=h;exact i7 x h,λe=>(B (g.2.2.1 e).1 (by kernel_rfl)).elim,λe=>(B (g.2.2.2 e) (by kernel_rfl)).elim⟩)
def Cl.oF(h:Cl K E c)(b:Ok c)(d:oI E)(f:c.rows[p]?=some r):(r.o.bo=none/\bF c r=r)\/∃t,r.o.bo=some t/\bF c r=r.cC (Mine.toEnd c t):=by
 refine I λk=>?_;obtain H|⟨t,a,⟨s,_,g,i,_⟩|H⟩:=lp c r
 ·exact k (.inl H)
 ·obtain⟨z,j,_,e,_⟩:=h.toEnd b d f a;obtain rfl:=aj (ag g j);rw[i]at e;exact tf e
 ·exact k (.inr ⟨t,a,H⟩)
def Iy(r:R)(t:Nat):(r.cC t).ty=r.ty:=by obtain⟨x,g⟩:=r;cases x<;>rfl
def Cl.gQ(h:Cl K E c)(o:Ok c)(H:oI E)(a:c.rows[p]?=some r):(bF c r).ty=r.ty:=by
 obtain⟨_,e⟩|⟨t,_,e⟩:=h.oF o H a<;>rw[e];exact Iy r _
def Tj(h:Cl K E c)(b:Ok c)(d:oI E)(f:Fx K K [] bI E)(x:aw K 901=true):Cl K E (bK c):=by
 refine rX (show bK c=ay c (cc c λZ r=>some (bF c r)) from congrArg (ay c) (iS c.rows λr=>some (bF c r))) ?_;obtain⟨L,sc⟩:=BO (λZ r=>some (bF c r)) c.rows 0
 have src:∀{q s},(cc c λZ r=>some (bF c r))[q]?=some (some s)->∃r,c.rows[q]?=some r/\s=bF c r:=λy=>by
  obtain⟨r,g,i⟩:=eB y;exact⟨r,g,(aj i).symm⟩
 refine h.uO b sc BR f x (λp a l o u z v C Z H D=>?_) (λq r g Z=>⟨_,bN g⟩) (λq r g i=>?_) (λq r g=>?_)
 ·cases z with
  |mk r l=>
   have e:dI [some (bF c r)]=dI [some r]:=congrArg (λn=>[n]) (h.gQ b d (dg v).1);exact rX e (zK (h.ty _ _ (dg v).1) rfl)
 ·obtain⟨w,G,rfl⟩:=src g;exact⟨w,G,ag (h.gQ b d G) i⟩
 ·obtain⟨w,G,rfl⟩:=src g;intro u H;refine rX (h.gQ b d G) ?_;obtain⟨A,e⟩|⟨t,k,e⟩:=h.oF b d G<;>have H:=e▸H
  ·rw[A]at H;exact nn H
  ·cases ag (dm k) H;obtain⟨s,m,_,_,B⟩:=h.toEnd b d G k;exact⟨sc.h7 BR ((wi t _ t (.refl t)).marked (dn G k)) ((cu m)),((cu m)),λS j=>by obtain rfl:=aj (ag m j);exact B⟩
end
inductive Nz(c:PC)(o:List (Option R))(q:Nat):Prop
 |keep (r):c.rows[q]?=some r->o[q]?=some (some r)->(∀s z,c.rows[q+1]?=some s->c.rows[q+2]?=some z->jl (marked c) q r s z=false)->Nz c o q
 |dC (p i r s z):q=p+i->i<3->c.rows[p]?=some r->c.rows[p+1]?=some s->c.rows[p+2]?=some z->jl (marked c) p r s z=true->o[p]?=some none->o[p+1]?=some (some s)->o[p+2]?=some none->Nz c o q
section
variable{r:R}
def t7(sc:cW (V3 (marked c)) 0 c.rows o B)(u:q<c.rows.length):Nz c o q:=by
 refine I λv=>?_
 have t:∀{p l o' B},cW (V3 (marked c)) p l o' B->∀q,p<=q->q<p+l.length->∃Q∈B,Q<=q/\∀k∈B,k<=q->k<=Q:=by
  intro p l o' B h;induction h with
  |nil p=>intro q g H;exact gY (ln2 0x1506126511011110 rfl g H)
  |cons p a l o l' B w P S x C=>
   intro q g H;have H:=c9▸H;obtain f|f:=Nat.lt_or_ge q (p+a.length)
   ·refine⟨p,eE,g,λk b d=>?_⟩;obtain rfl|b:=hH b
    ·exact di
    ·have:=(x.lo.2.2 k b).1;lia
   ·obtain⟨Q,j,n,A⟩:=C q f (gf 0x8706051287600511 rfl H);refine⟨Q,fg j,n,λk b d=>?_⟩;obtain rfl|b:=hH b
    ·have:=(x.lo.2.2 Q j).1;exact Nat.le_of_add_right_le this
    ·exact A k b d
 obtain⟨Q,g,H,f⟩:=t sc q aZ (by rw[aD];exact u);refine sc.at rfl rfl Q g (by rw[aD];exact iC H u) λa l o' W=>?_;obtain⟨w,i,_,_,⟨L,m⟩,N,_⟩:=W;cases w with
 |keep r l D=>
  obtain e|j:=Nat.eq_or_lt_of_le H
  ·subst e;refine v (.keep r (dg i).1 (dg m).1 λs z G y=>?_);exact D s z (c.rows.drop (Q+3)) ((ag ((dg i).2) (drop_cons G)).trans (congrArg _ (drop_cons y)))
  ·have:=f _ N j;exact ak this (Nat.lt_irrefl _)
 |dC r s z l E=>
  have n:=Nat.lt_of_not_le λh=>by have:=f _ N h;exact gY (et 0x5315011011110 rfl this)
  exact v (.dC Q (q-Q) r s z (Eq.symm (Nat.add_sub_of_le H)) (Nat.sub_lt_left_of_lt_add H n) (dg i).1 (dg (dg i).2).1 (dg (dg (dg i).2).2).1 E (dg m).1 (dg (dg m).2).1 (dg (dg (dg m).2).2).1)
def NA(K k bI:List Nat):Bool:=c4 (cT (λa=>imp (dY [8] a) (Nat.beq a 120)) K)<|cT (λb=>imp (dO 120 b) (imp (dY [3,5] b) (c4 (dY [3,5] b) (cT (λz=>imp (dO b z) (imp (dY [7] z) (c4 (Nat.beq z 167) (cT (λy=>imp (dO z y) (BY K k [] bI [120,b,z] [b] y)) K)))) K)))) K
def dN(h:r.o.kd=n)(e:r.ty=m)(H:Nat.beq n (m%16)=false){P:Prop}:P:=eD (ag h (ag (jn r) (congrArg (·%16) e))) H
def pz{o:O}(h:o.d9=true):o.kd=3\/o.kd=5:=by cases o<;>first|exact ft h|exact .inl rfl|exact .inr rfl
def Tn(h:Cl K bL c)(w:Ok c)(f:Fx K K' [] fZ bL)(y:aw K 901=true)(A:NA K K' fZ=true)
 (d:∀p r,c.rows[p]?=some r->(∀s z,c.rows[p+1]?=some s->c.rows[p+2]?=some z->jl (marked c) p r s z=false)->aw K' r.ty=true):Cl K' bL (dU c):=by
 obtain⟨o,V,e,sc⟩:=gw c;refine rX e ?_;have P:∀{q x},o[q]?=some x->q<c.rows.length:=λh=>by exact rX (sc.len).symm (cu h)
 have src:∀{q r},o[q]?=some (some r)->c.rows[q]?=some r:=λ{q r} g=>by
  refine I λB=>?_;cases t7 sc (P g)with
  |keep m G Q=>obtain rfl:=aj (aj (ag g Q));exact B (G)
  |dC p i m s z e v a1 a2 D H b1 b2 b3=>
   subst e;have:=p_ v;obtain rfl|rfl|rfl:=this
   ·exact nn (aj (ag b1 g))
   ·obtain rfl:=aj (aj (ag g b2));exact B (a2)
   ·exact nn (aj (ag b3 g))
 refine h.uO w sc Ni f y (λp a l o' u L j k Z T N=>?_) (λq r g G=>?_) (λq r g G=>⟨r,src g,G⟩) (λq r g=>h.row w (λt a b=>sc.h7 Ni a b) (src g))
 ·cases L with
  |keep r l S=>
   refine zK (d p r (dg j).1 λs z g G=>?_) rfl;have a2:=ag (dg j).2 (drop_cons g);exact S s z (c.rows.drop (p+3)) (a2.trans (congrArg _ (drop_cons G)))
  |dC r s z l H=>
   have C:=(cM H).2.1;have E:=lT (bO (bC (aG A).1 (k _ eE)) (bR (rX ((cM H).1) rfl)));have p2:=(iL N).2;have w3:=bO (bC (aG (bO (bO (bC (aG (bO (bO (bC (aG A).2 (k _ (fg eE))) (E▸(iL p2).1)) (bR C))).2 (k _ (fg (fg eE)))) (iL ((iL p2).2)).1) (bR (rX ((cM H).2.2.1) rfl)))).2 (h.nx y j)) (iL ((iL p2).2)).2;have w3:=E▸w3;exact rC w3 (aN _ _)
 ·cases t7 sc (cu g)with
  |keep m a1 a2=>exact⟨_,a2⟩
  |dC p i m s z e v a1 a2 D H b1 b2 b3=>
   subst e;have C:=(cM H).2.1;have:=p_ v;obtain rfl|rfl|rfl:=this
   ·obtain rfl:=aj (ag g a1);exact G.elim (λe=>dN (n:=8) (by rw[((cM H).1)];rfl) e (by kernel_rfl)) λe=>dN (n:=8) (by rw[((cM H).1)];rfl) e (by kernel_rfl)
   ·exact⟨_,b2⟩
   ·obtain rfl:=aj (ag g D);exact G.elim (λe=>dN (n:=7) (by rw[((cM H).2.2.1)];rfl) e (by kernel_rfl)) λe=>dN (n:=7) (by rw[((cM H).2.2.1)];rfl) e (by kernel_rfl)
end
section
variable{r s:R}
def uj(a b x y:Nat):Bool:=c4 (Nat.beq a x) (Nat.beq b y)
noncomputable def or3(a b:Bool):Bool:=match a with|true=>true|false=>b
def jU(h:or3 a b=true):a=true\/b=true:=by
 cases a
 ·exact .inr h
 ·exact .inl rfl
def gU(h:uj a b x y=true):a=x/\b=y:=⟨lT (aG h).1,lT (aG h).2⟩
def kt(K:List Nat):Bool:=cT (λa=>imp (dY [0] a) (cT (λb=>imp (dO a b) (c4 (imp (dY [11] b) (or3 (uj a b 304 331) (uj a b 240 267))) (imp (dY [10] b) (or3 (uj a b 400 426) (uj a b 272 298))))) K)) K
def NB(h:Cl K E c)(k:kt K=true)(f:c.rows[p]?=some r)(H:c.rows[p+1]?=some s)(m:dy c (marked c) p r s=some x):
 ((r.ty=304/\s.ty=331\/r.ty=240/\s.ty=267)/\∃v k t,r.o=.push v/\s.o=.br k t/\x=(none,bif v.truth==k then some ⟨.aM t,s.g⟩else none))\/
 ((r.ty=272/\s.ty=298)/\∃v t z k l,r.o=.push v/\s.o=.aM t/\c.rows[t]?=some z/\z.o=.br k l/\x=(none,some ⟨.aM (bif v.truth==k then l else t+1),s.g⟩)):=by
 obtain⟨v,w⟩:=fK m;have j:=bO (bC (bO (bC k (h.ty _ _ f)) (bR (rX w.r rfl))) (h.ty _ _ H)) (h.oH f H);obtain⟨k,t,e,b⟩|⟨t,z,k,l,e,b,i,n⟩:=w.a
 ·refine .inl ⟨?_,v,k,t,w.r,e,b⟩;exact(jU (bO (aG j).1 (bR (rX e rfl)))).imp gU gU
 ·obtain d|d:=jU (bO (aG j).2 (bR (rX e rfl)))
  ·have:=(h.tg _ _ _ _ H (rX e rfl) b).2.2.2 (gU d).2;exact dN (rX i rfl) this (by kernel_rfl)
  ·exact .inr ⟨gU d,v,t,z,k,l,w.r,e,b,i,n⟩
def mF(h:s.ty=n)(H:s.o.kd=11)(e:Nat.beq (n-1) m=true):(⟨.aM t,s.g⟩:R).ty=m:=by
 refine rX (lT e).symm (rX h.symm ?_);show s.g*16+10=s.g*16+s.o.kd-1;exact rX H rfl
def wq(a b:Nat):Bool:=uj a b 304 331
noncomputable def To(_ _:Nat):List (List Nat):=[[330],[]]
def qE(H:r.o=.push v)(a:s.o=.br k t)(b:marked c (p+1)=false):dy c (marked c) p r s≠none:=by
 unfold dy;refine rX H (rX a ?_);exact rX b (λh=>nn h.symm)
def wt{o:O}(h:o.kd=0):∃v,o=.push v:=by cases o<;>first|exact⟨_,rfl⟩|exact eD h (by kernel_rfl)
def wu{o:O}(h:o.kd=11):∃b t,o=.br b t:=by cases o<;>first|exact⟨_,_,rfl⟩|exact eD h (by kernel_rfl)
def rE{o:O}(h:o.kd=10):∃t,o=.aM t:=by cases o<;>first|exact⟨_,rfl⟩|exact eD h (by kernel_rfl)
def wx(h:r.ty=n):r.o.kd=n%16:=by refine rX h.symm ?_;rw[jn]
def KQ:List Nat:=330::K6
def tK2:c4 (lr KQ K7 [331] fZ wq wq To) (c4 (ui KQ wq) (kt KQ))=true:=by kernel_rfl
def l4(h:Cl KQ bL c)(a:c.rows[p]?=some r)(d:c.rows[p+1]?=some s)(e:dy c (marked c) p r s=some x):(r.ty=304/\s.ty=331)/\∃v k t,r.o=.push v/\s.o=.br k t/\x=(none,bif v.truth==k then some ⟨.aM t,s.g⟩else none):=by
 obtain⟨H,b⟩|⟨H,b⟩:=NB h (aG (aG tK2).2).2 a d e
 ·obtain H|H:=H
  ·exact⟨H,b⟩
  ·exact ft (ag (show aw KQ 240=false by kernel_rfl) (H.1▸h.ty _ _ a))
 ·exact ft (ag (show aw KQ 272=false by kernel_rfl) (H.1▸h.ty _ _ a))
def Zp(h:Cl K6 bL c)(ok:Ok c):Cl K7 bL (eh c):=by
 have h:Cl KQ bL c:=h.mono (by kernel_rfl);obtain⟨t1,t2⟩:=aG tK2;obtain⟨t2,t3⟩:=aG t2;obtain⟨o,bd,e,sc⟩:=c8 Ej;unfold eh;refine rX e ?_
 have P:P2 c (dy c (marked c)) KQ K7 [331] fZ bL bL wq wq To:={
  f:=ij (by kernel_rfl)
  h9:=by kernel_rfl
  lC:=t1
  no:=t2
  hm:=λp r s x h=>let⟨_,h⟩:=fK h;h.m
  hf:=λp r s x h1 h2 hx=>by
   refine I λk0=>?_;obtain⟨⟨e1,e2⟩,v,k,t,_,e3,rfl⟩:=l4 h h1 h2 hx;refine k0 (⟨by refine rX e1 (rX e2 ?_);kernel_rfl,?_⟩);cases v.truth==k
   ·exact fg eE
   ·show[(⟨.aM t,s.g⟩:R).ty]∈_;rw[mF e2 (rX e3 rfl) (by kernel_rfl)];exact eE
  mu:=λp r s h1 h2 hm hn=>by
   obtain⟨e1,e2⟩:=gU hm;obtain⟨v,hv⟩:=wt (wx e1);obtain⟨b,t,hb⟩:=wu (wx e2);exact qE hv hb (El h h2 (by refine rX e2 ?_;kernel_rfl)) hn
  h3:=λp r s x hx r'=>by
   obtain⟨v,w⟩:=fK hx;have key:∀{t g},some (⟨.aM t,g⟩:R)=some r'->r'.ty≠395:=λe h=>by obtain rfl:=aj e;exact dN rfl h (by kernel_rfl)
   obtain⟨k,t,_,e2⟩|⟨t,z,k,l,_,_,_,e4⟩:=w.a
   ·refine rX e2 ?_;refine⟨λh=>nn h,λh=>?_⟩;cases hv:v.truth==k<;>have h:=hv▸h
    ·exact nn h
    ·exact key h
   ·exact rX e4 (⟨λh=>nn h,λh=>key h⟩)}
 have hr:∀p r,c.rows[p]?=some r->m_ c bd bL p r:=λp r h1=>h.row ok (λt a b=>sc.h7 (tZ P.hm) a b) h1;refine Iw P h ok sc (λp r h1 Z=>hr p r h1) λp r s x h1 h2 hx r'=>?_;obtain⟨⟨e1,e2⟩,v,k,t,_,e3,rfl⟩:=l4 h h1 h2 hx;refine⟨λh=>nn h,λe Z=>?_⟩;cases hv:v.truth==k<;>rw[hv]at e
 ·exact nn e
 obtain rfl:=aj e;intro u hu;obtain rfl:=aj hu;obtain⟨a1,a2,a3⟩:=hr _ _ h2 t (rX e3 rfl);refine⟨a1,a2,λz hz=>?_⟩;exact rX (mF e2 (rX e3 rfl) (m:=330) (by kernel_rfl)) (⟨((a3 z hz).1),((a3 z hz).2.1),λh=>eD h (by kernel_rfl),λh=>eD h (by kernel_rfl)⟩)
end
def E0(a b:Nat):Bool:=or3 (uj a b 235 304) (uj a b 298 331)
def E1(a b:Nat):Bool:=uj a b 235 304
noncomputable def NC:List Nat:=[18,35,432,451,304,331]
noncomputable def K0:List Nat:=[900,901,0,1,2,3,6,7,9,13,14,15,18,32,33,34,35,64,65,66,68,87,96,98,120,137,147,149,167,185,201,210,235,240,267,272,298,304,331,346,363,368,395,400,426,432,451]
def K1:List Nat:=298::K2
def GF(h:E0 a b=true):b=304\/b=331:=(jU h).imp (λh=>(gU h).2) λh=>(gU h).2
def Tp(h:E0 a b=true):a=235\/a=298:=(jU h).imp (λh=>(gU h).1) λh=>(gU h).1
def En(h:E1 a b=true):a=235/\b=304:=gU h
def iM:oI E0:=⟨λa b h=>by obtain rfl|rfl:=Tp h<;>kernel_rfl,λa b h=>by obtain rfl|rfl:=GF h<;>kernel_rfl⟩
def Tq(h:Fx K K' X bI bL)(H:∀a b,E a b=true->aw bI b=true):Fx K K' X bI E:=⟨h.hK,h.h0,h.h9,h.fx,H,h.X0,h.Xn⟩
def Eo(c:PC)(q n:Nat):Prop:=∃r,c.rows[q]?=some r/\r.ty=n
def Iz(c:PC)(q n t:Nat):Prop:=∃r,c.rows[q]?=some r/\r.ty=n/\r.o.bo=some t
def B2(c:PC)(q n:Nat)(x:O):Prop:=∃r,c.rows[q]?=some r/\r.ty=n/\r.o=x
inductive N6(c:PC)(q:Nat):Prop|mk(u0:Iz c q 235 (q+3))(u1:B2 c (q+1) 272 (.push .tt))(u2:Iz c (q+2) 298 (q+4))(u3:B2 c (q+3) 304 (.push .ff))(u4:Eo c (q+4) 331):N6 c q
abbrev wy(c:PC):Prop:=(∀(p:Nat) (r:R),c.rows[p]?=some r->aw [272,298,304,331] r.ty=true->∃q i,p=q+i/\0<i/\i<5/\N6 c q)/\∀(p:Nat) (r:R) (t:Nat) (s:R),c.rows[p]?=some r->r.ty=235->r.o.bo=some t->c.rows[t]?=some s->s.ty=304->N6 c p
inductive Nq(c:PC)(q:Nat)(k:Bool)(l y:Nat):Prop|mk(u0:Iz c q 235 (q+2))(u1:B2 c (q+1) 298 (.aM y))(u2:B2 c (q+2) 304 (.push .ff))(u3:B2 c (q+3) 331 (.br k l))(u4:(k=true->y=l)/\(k=false->y=q+4)):Nq c q k l y
abbrev RW(c:PC):Prop:=(∀(p:Nat) (r:R),c.rows[p]?=some r->aw [298,304,331] r.ty=true->∃q i k l y,p=q+i/\0<i/\i<4/\Nq c q k l y)/\∀(p:Nat) (r:R) (t:Nat) (s:R),c.rows[p]?=some r->r.ty=235->r.o.bo=some t->c.rows[t]?=some s->s.ty=304->∃k l y,Nq c p k l y
inductive N4(JJ:Prop)(c:PC)(q:Nat)(k:Bool)(l y:Nat):Prop|mk(u0:Iz c q 235 y)(u1:B2 c (q+1) 304 (.push .ff))(u2:B2 c (q+2) 331 (.br k l))(u3:k=false->y=q+3\/(JJ/\∃r,c.rows[q+3]?=some r/\r.o.isJ=true)):N4 JJ c q k l y
def hP(j:Prop)(c:PC):Prop:=∀(p:Nat) (r:R),c.rows[p]?=some r->r.ty=331->∃q k l y,p=q+2/\N4 j c q k l y
section
variable{p:Nat}{r:R}
def rF(h:∀q,q<o.length->∃r,o[q]?=some (some r)):∀q,q<=o.length->aK o q=q:=by
 intro m;induction m with
 |zero=>exact λZ=>sV o
 |succ q i=>
  intro H;obtain⟨r,a⟩:=h q H;exact rX (aP a) (rX (i (a_ H)) rfl)
def iO(a:Ok c)(H:c.rows[p]?=some r):(bK c).rows[p]?=some (bF c r):=by
 have e:bK c=ay c (cc c λZ r=>some (bF c r)):=congrArg (ay c) (iS c.rows λr=>some (bF c r));have h:=rF (o:=cc c λZ r=>some (bF c r)) λq b=>⟨_,bN (dv (by rw[cO]at b;exact b))⟩;refine rX e ?_;have i:=bT (c:=c) (bN (f:=λZ r=>some (bF c r)) H);rw[h p (rX cO (a_ (cu H)))]at i;refine rX i ?_;refine congrArg some ?_;obtain⟨k,E⟩|⟨t,d,⟨s,_,_,_,E⟩|E⟩:=lp c r<;>refine rX E ?_
 ·show R.mk (r.o.cC _) r.g=r;rw[t4 k]
 ·rfl
 ·have j:=a.t r (gh H) t d;unfold cA;refine rX (show(r.cC (toEnd c t)).o.bo=some (toEnd c t) from dm d) (rX BN ?_);exact rX (h _ (rX cO (a_ (q0 a j _ t j)))) rfl
def l5(o:Ok c)(h:(bK c).rows[p]?=some x):∃r,c.rows[p]?=some r/\x=bF c r:=by
 have e:bK c=ay c (cc c λZ r=>some (bF c r)):=congrArg (ay c) (iS c.rows λr=>some (bF c r));have:(bK c).rows.length<=c.rows.length:=by exact rX e (lZ cO)
 have H:c.rows[p]?=some (c.rows[p]'(i7 ((cu h)) this)):=dv _;exact⟨_,H,aj (ag h (iO o H))⟩
def Cl.zO(h:Cl K E c)(a:Ok c)(H:oI E)(b:c.rows[p]?=some r)(d:r.o.bo=none):bF c r=r:=by
 obtain⟨_,e⟩|⟨t,f,_⟩:=h.oF a H b
 ·exact e
 ·exact nn (ag d f)
def Cl.Ep(h:Cl K E c)(b:Ok c)(d:oI E)(f:c.rows[p]?=some r)(H:r.o.bo=some t)(g:c.rows[t]?=some s)(i:s.o.isJ=false):(bF c r).o.bo=some t:=by
 obtain⟨a,_⟩|⟨t',a,e⟩:=h.oF b d f
 ·exact nn (ag a H)
 ·obtain rfl:=aj (ag a H);exact rX e (rX (kb g i) (dm H))
def GI(h:r.ty=n)(H:dY [10] n=false):r.o.isJ=false:=by
 cases e:r.o.isJ with
 |false=>rfl
 |true=>exact tf (ag (rD e) (rX h H))
def tc{o:O}(h:o=.push v):o.bo=none:=by rw[h];rfl
def N6.T(n:N6 c q)(h:Cl K E0 c)(o:Ok c):N6 (bK c) q:=by
 obtain⟨⟨j,a1,a2,A⟩,⟨k,b1,b2,b3⟩,⟨r2,d,D,i⟩,⟨r3,e,E,a⟩,r4,f,b⟩:=n;have t:=λ{p r} (g:c.rows[p]?=some r)=>h.gQ o iM g;exact⟨⟨_,iO o a1,(t a1).trans a2,h.Ep o iM a1 A e (GI E (by kernel_rfl))⟩,⟨_,iO o b1,(t b1).trans b2,rX (h.zO o iM b1 (tc b3)) (b3)⟩,⟨_,iO o d,(t d).trans D,h.Ep o iM d i f (GI b (by kernel_rfl))⟩,⟨_,iO o e,(t e).trans E,rX (h.zO o iM e (tc a)) (a)⟩,_,iO o f,(t f).trans b⟩
theorem wy.T(n:wy c)(h:Cl K E0 c)(a:Ok c):wy (bK c):=by
 refine⟨λp x m b=>?_,λp x t y m z j A k=>?_⟩
 ·obtain⟨r,H,rfl⟩:=l5 a m;obtain⟨q,i,e,B,C,g⟩:=n.1 p r H (rX (h.gQ a iM H).symm b);exact⟨q,i,e,B,C,g.T h a⟩
 ·obtain⟨r,H,rfl⟩:=l5 a m;obtain⟨s,l,rfl⟩:=l5 a A;rw[h.gQ a iM H]at z;have k:=(h.gQ a iM l)▸k;refine N6.T ?_ h a;obtain⟨D,e⟩|⟨d,b,e⟩:=h.oF a iM H<;>have j:=e▸j
  ·exact nn (ag D j)
  cases ag (dm b) j;have N:=a.t r (gh H) d b;have f:=dv N;cases v:c.rows[d].o.isJ with
  |false=>
   rw[kb f v]at l;exact n.2 p r d s H z b l k
  |true=>
   have G:=(h.tg p r d _ H b f).1;have G:=G.elim id λg=>tf (ag (bR (by obtain⟨u,e,_⟩:=lQ f v;exact rX e rfl)) (iM.2 _ _ g));obtain⟨w,L,_,E,_⟩:=B1 h a iM d c.rows.length d _ f G (iC (ar _ _) (bg (((h.tg p r d _ H b f).2.1).elim id λe=>tf (ag v (zN e))) _));cases ag (L) l;have E:=k▸E;exact ft E
def Zq(h:Cl K0 E0 c)(o:Ok c):Cl K0 E0 (bK c):=Tj h o iM (Tq (ij (bI:=NC) (by kernel_rfl)) λa b h=>by obtain rfl|rfl:=GF h<;>kernel_rfl) (by kernel_rfl)
def pA(a b:Nat):Bool:=or3 (uj a b 240 267) (uj a b 272 298)
noncomputable def ND(a _:Nat):List (List Nat):=match Nat.beq a 240 with|true=>[[266],[]]|false=>[[298]]
def KV:List Nat:=266::K0
def Zr:c4 (lr KV K1 [267] NC pA pA ND) (c4 (ui KV pA) (kt KV))=true:=by kernel_rfl
abbrev KH(c:PC):Prop:=Cl KV E0 c/\Ok c/\wy c
def Tr(h:Cl K E0 c)(b:c.rows[q]?=some s)(d:aw c3 s.ty=false)(e:s.ty≠304)(f:s.ty≠331):marked c q=false:=by
 cases g:marked c q with
 |false=>rfl
 |true=>
  obtain H|⟨a,H⟩:=h.marked g b
  ·exact ft (ag d H)
  ·obtain H|H:=GF H
   ·exact ak H e
   ·exact ak H f
def KH.Zs(k:KH c)(h:c.rows[p]?=some r)(H:dy c (marked c) p r s=some x):r.ty≠304:=λe=>by
 obtain⟨q,i,rfl,a,b,g⟩:=k.2.2.1 p r h (by refine rX e ?_;kernel_rfl);obtain⟨⟨_,_,_,_⟩,⟨n,b1,b2,_⟩,⟨r2,d,D,f⟩,_,r4,j,l⟩:=g;obtain⟨v,w⟩:=fK H;have:=TH a b;obtain rfl|rfl|rfl|rfl:=this
 ·obtain rfl:=aj (ag h b1);exact eD (ag e b2) (by kernel_rfl)
 ·obtain rfl:=aj (ag h d);exact eD (ag e D) (by kernel_rfl)
 ·exact tf (ag (dn d f) w.m)
 ·obtain rfl:=aj (ag h j);exact eD (ag e l) (by kernel_rfl)
def KH.ty(k:KH c)(H:c.rows[p]?=some r)(b:c.rows[p+1]?=some s)(a:dy c (marked c) p r s=some x):
 ((r.ty=240/\s.ty=267)/\∃v k t,r.o=.push v/\s.o=.br k t/\x=(none,bif v.truth==k then some ⟨.aM t,s.g⟩else none))\/
 ((r.ty=272/\s.ty=298)/\∃v t z k l,r.o=.push v/\s.o=.aM t/\c.rows[t]?=some z/\z.o=.br k l/\x=(none,some ⟨.aM (bif v.truth==k then l else t+1),s.g⟩)):=by
 obtain⟨h|h,d⟩|h:=NB k.1 (aG (aG Zr).2).2 H b a
 ·exact ak h.1 (k.Zs H a)
 ·exact .inl ⟨h,d⟩
 ·exact .inr h
def KH.dC(k:KH c)(H:c.rows[p]?=some r)(o:c.rows[p+1]?=some s)(f:pA r.ty s.ty=true):dy c (marked c) p r s≠none:=by
 obtain e|e:=jU f
 ·obtain⟨E,a⟩:=gU e;obtain⟨v,z⟩:=wt (wx E);obtain⟨b,t,j⟩:=wu (wx a);exact qE z j (Tr k.1 o (by refine rX a ?_;kernel_rfl) (by refine rX a ?_;decide) (by refine rX a ?_;decide))
 ·obtain⟨E,a⟩:=gU e;obtain⟨q,i,rfl,A,B,g⟩:=k.2.2.1 p r H (by refine rX E ?_;kernel_rfl);obtain⟨_,⟨G,b1,b2,b3⟩,⟨r2,D,d,u⟩,⟨r3,m,n,_⟩,r4,w,x⟩:=g
  have C:i=1:=by
   have:=TH A B;obtain rfl|rfl|rfl|rfl:=this
   ·rfl
   ·obtain rfl:=aj (ag H D);exact eD (ag E d) (by kernel_rfl)
   ·obtain rfl:=aj (ag H m);exact eD (ag E n) (by kernel_rfl)
   ·obtain rfl:=aj (ag H w);exact eD (ag E x) (by kernel_rfl)
  subst C;obtain rfl:=aj (ag H b1);obtain rfl:=aj (ag o D);obtain⟨t,y⟩:=rE (wx d);obtain⟨b,l,j⟩:=wu (wx x);rw[y]at u;obtain rfl:=aj u;have f:=Tr k.1 D (by refine rX d ?_;kernel_rfl) (by refine rX d ?_;decide) (by refine rX d ?_;decide);unfold dy;refine rX b3 (rX y ?_);dsimp only[O.pv,O.bq,O.jt];refine rX f (rX w ?_);dsimp only[Option.bind_some];exact rX j (λh=>nn h.symm)
def KH.P(k:KH c):P2 c (dy c (marked c)) KV K1 [267] NC E0 E1 pA pA ND where
 f:=Tq (ij (by kernel_rfl)) λa b h=>by obtain⟨_,rfl⟩:=En h;kernel_rfl
 h9:=by kernel_rfl
 lC:=(aG Zr).1
 no:=(aG (aG Zr).2).1
 hm p r s x h:=let⟨_,h⟩:=fK h;h.m
 hf p r s x h1 h2 hx:=by
  obtain⟨⟨d,E⟩,v,b,t,_,j,rfl⟩|⟨⟨d,E⟩,v,t,z,b,l,_,j,_,_,rfl⟩:=k.ty h1 h2 hx
  ·refine⟨by refine rX d (rX E ?_);kernel_rfl,?_⟩;refine rX d ?_;cases v.truth==b
   ·exact fg eE
   ·show[(⟨.aM t,s.g⟩:R).ty]∈_;exact rX (mF E (rX j rfl) (by kernel_rfl)) (eE)
  ·refine⟨by refine rX d (rX E ?_);kernel_rfl,?_⟩;refine rX d ?_;show[(⟨.aM _,s.g⟩:R).ty]∈_;exact rX (show(⟨.aM (bif v.truth==b then l else t+1),s.g⟩:R).ty=298 from(show s.g*16+10=s.g*16+s.o.kd by exact rX j rfl).trans E) (eE)
 mu p r s h1 h2 hm hn:=k.dC h1 h2 hm hn
 h3 p r s x hx r':=by
  obtain⟨v,w⟩:=fK hx;have i:∀{t g},some (⟨.aM t,g⟩:R)=some r'->r'.ty≠395:=λe h=>by obtain rfl:=aj e;exact dN rfl h (by kernel_rfl)
  obtain⟨k,t,_,E⟩|⟨t,z,k,l,_,_,_,n⟩:=w.a
  ·refine rX E ?_;refine⟨λh=>nn h,λh=>?_⟩;cases H:v.truth==k<;>have h:=H▸h
   ·exact nn h
   ·exact i h
  ·exact rX n (⟨λh=>nn h,λh=>i h⟩)
def TG.aM(h:TG E0 a b p t)(d:b≠304)(H:b≠331)(f:n≠395)(c:n≠426):TG E1 n b p t:=⟨.inl (h.1.elim id λg=>(GF g).elim (λg=>ak g d) λg=>ak g H),h.2.1,λe=>ak e f,λe=>ak e c⟩
end
section
variable{p:Nat}
structure B6(c:PC)(o:List (Option R))(bd:List Nat)(q:Nat)(r0 r2 r3 r4:R)(b:Bool)(l y:Nat):Prop where
 a:c.rows[q]?=some r0/\r0.ty=235/\r0.o.bo=some (q+3)
 d:c.rows[q+2]?=some r2/\r2.ty=298/\r2.o=.aM (q+4)
 e:c.rows[q+3]?=some r3/\r3.ty=304/\r3.o=.push .ff
 f:c.rows[q+4]?=some r4/\r4.ty=331/\r4.o=.br b l
 hy:y=bif b then l else q+5
 o0:o[q]?=some (some r0)
 o1:o[q+1]?=some none
 o2:o[q+2]?=some (some ⟨.aM y,r2.g⟩)
 o3:o[q+3]?=some (some r3)
 o4:o[q+4]?=some (some r4)
 nx:q+5∈bd
def KH.RX(k:KH c)(sc:cW (V2 (dy c (marked c))) 0 c.rows o bd)(g:N6 c q):∃r0 r2 r3 r4 b l y,B6 c o bd q r0 r2 r3 r4 b l y:=by
 refine I λk0=>?_;obtain⟨⟨r0,a1,a2,a3⟩,⟨r1,b1,b2,b3⟩,⟨r2,d1,d2,d3⟩,⟨r3,e1,e2,e3⟩,r4,f1,f2⟩:=g;obtain⟨t,ht⟩:=rE (wx d2);obtain⟨b,l,hb⟩:=wu (wx f2);rw[ht]at d3;obtain rfl:=aj d3
 have fst:∀{p r s x n},c.rows[p]?=some r->c.rows[p+1]?=some s->dy c (marked c) p r s=some x->r.ty=n->aw [240,272] n=true:=λh1 h2 h3 h4=>by
  obtain⟨h5,_⟩|⟨h5,_⟩:=k.ty h1 h2 h3<;>refine rX h4.symm (rX h5.1 ?_)<;>kernel_rfl
 have snd:∀{p r s x n},c.rows[p]?=some r->c.rows[p+1]?=some s->dy c (marked c) p r s=some x->s.ty=n->aw [267,298] n=true:=λh1 h2 h3 h4=>by
  obtain⟨h5,_⟩|⟨h5,_⟩:=k.ty h1 h2 h3<;>refine rX h4.symm (rX h5.2 ?_)<;>kernel_rfl
 have keep:∀{p r n},c.rows[p]?=some r->r.ty=n->aw [240,272] n=false->aw [267,298] n=false->o[p]?=some (some r)/\p+1∈bd:=λ{p r n} h1 h2 h3 h4=>by
  refine I λk0=>?_;cases gF sc (cu h1)with
  |keep r' g1 g2 _ g3 _=>obtain rfl:=aj (ag h1 g1);exact k0 (⟨g2,g3⟩)
  |fst r' s x g1 g2 g3 _ _ _=>obtain rfl:=aj (ag h1 g1);exact ft (ag h3 (fst g1 g2 g3 h2))
  |snd p r' s x e g1 g2 g3 _=>subst e;obtain rfl:=aj (ag h1 g2);exact ft (ag h4 (snd g1 g2 g3 h2))
 have k1:∃x,dy c (marked c) (q+1) r1 r2=some x/\o[q+1]?=some x.1/\o[q+1+1]?=some x.2:=by
  refine I λk1=>?_;cases gF sc (cu b1)with
  |keep r' g1 _ _ _ g2=>
   obtain rfl:=aj (ag b1 g1);exact ak (g2 r2 d1) (k.dC b1 d1 (by refine rX b2 (rX d2 ?_);kernel_rfl))
  |fst r' s x g1 g2 g3 g4 g5 _=>
   obtain rfl:=aj (ag b1 g1);obtain rfl:=aj (ag d1 g2);exact k1 (⟨x,g3,g4,g5⟩)
  |snd p r' s x e g1 g2 g3 _=>
   obtain rfl:=bz e;obtain rfl:=aj (ag a1 g1);exact ft (fst g1 g2 g3 a2)
 obtain⟨x,x1,x2,x3⟩:=k1;obtain⟨h5,_⟩|⟨_,v,t,z,b',l',v1,v2,v3,v4,rfl⟩:=k.ty b1 d1 x1
 ·exact eD (ag b2 h5.1) (by kernel_rfl)
 cases ag b3 v1;cases ag ht v2;obtain rfl:=aj (ag f1 v3);cases ag hb v4;refine k0 (⟨r0,r2,r3,r4,b,l,_,⟨a1,a2,a3⟩,⟨d1,d2,ht⟩,⟨e1,e2,e3⟩,⟨f1,f2,hb⟩,rfl,(keep a1 a2 (by kernel_rfl) (by kernel_rfl)).1,x2,?_,(keep e1 e2 (by kernel_rfl) (by kernel_rfl)).1,(keep f1 f2 (by kernel_rfl) (by kernel_rfl)).1,(keep f1 f2 (by kernel_rfl) (by kernel_rfl)).2⟩);refine rX x3 ?_;cases b<;>rfl
def GJ{a z}(h:dO a z=true)(e:getL inner a=[]):aw c3 z=true:=by
 have h:(match aw (getL inner a) z with|true=>true|false=>(match aw c3 z with|true=>aw h_ a|false=>false))=true:=h;rw[e]at h;cases E:aw c3 z with
 |false=>rw[E]at h;exact ft h
 |true=>rfl
def TG.str(h:TG E0 a b p t)(H:a≠235)(c:a≠298):aw c3 b=true:=h.1.elim id λg=>(Tp g).elim (λe=>ak e H) λe=>ak e c
def TG.new(h:TG E a b p t)(H:aw c3 b=true)(c:p'<=p)(d:n≠395)(f:n≠426):TG E' n b p' t:=⟨.inl H,h.2.1.imp_left (iC c),λe=>ak e d,λe=>ak e f⟩
def KH.Ts(k:KH c)(w:∃j r2 r3 r4 b l y,B6 c o bd q j r2 r3 r4 b l y)(n:∀t,marked c t=true->t<c.rows.length->t∈bd)(v:o[q+2]?=some (some r)):m_ c bd E1 (q+2) r:=by
 obtain⟨j,r2,r3,r4,b,l,y,w⟩:=w;obtain⟨a,i,m⟩:=w.f;obtain rfl:=aj (aj (ag w.o2 v));intro u z;obtain rfl:=aj z;have T:(⟨.aM y,r2.g⟩:R).ty=298:=(show r2.g*16+10=r2.g*16+r2.o.kd by exact rX w.d.2.2 rfl).trans w.d.2.1;refine rX T ?_;have H:=w.hy;cases b with
 |true=>
  subst H;obtain⟨a1,a2,A⟩:=k.1.row k.2.1 n a y (rX m rfl);exact⟨a1,a2,λs h=>(A s h).new ((A s h).str (by refine rX i ?_;decide) (by refine rX i ?_;decide)) (aS (ar _ _) _) (by decide) (by decide)⟩
 |false=>
  subst H
  have x:=eX (cu a) λe=>by
   have:=k.2.1.e _ _ a e;rw[m]at this;exact ft this
  refine⟨w.nx,x,λs h=>⟨.inl ?_,.inl (Nat.add_lt_add_left (bD rfl) _),λe=>eD e (by kernel_rfl),λe=>eD e (by kernel_rfl)⟩⟩;exact GJ (k.1.oH a h) (by refine rX i ?_;kernel_rfl)
def KH.idx(k:KH c)(h:c.rows[p]?=some r)(H:aw [272,298,304,331] r.ty=true):(r.ty=272/\∃q,p=q+1/\N6 c q)\/(r.ty=298/\∃q,p=q+2/\N6 c q)\/(r.ty=304/\∃q,p=q+3/\N6 c q)\/(r.ty=331/\∃q,p=q+4/\N6 c q):=by
 refine I λa=>?_;obtain⟨q,i,rfl,b,d,g⟩:=k.2.2.1 p r h H;obtain⟨_,⟨m,b1,b2,_⟩,⟨r2,D,e,_⟩,⟨r3,E,f,_⟩,r4,j,l⟩:=id g;have:=TH b d;obtain rfl|rfl|rfl|rfl:=this
 ·obtain rfl:=aj (ag h b1);exact a (.inl ⟨b2,q,rfl,g⟩)
 ·obtain rfl:=aj (ag h D);exact a (.inr (.inl ⟨e,q,rfl,g⟩))
 ·obtain rfl:=aj (ag h E);exact a (.inr (.inr (.inl ⟨f,q,rfl,g⟩)))
 ·obtain rfl:=aj (ag h j);exact a (.inr (.inr (.inr ⟨l,q,rfl,g⟩)))
def KH.NF(k:KH c)(a:c.rows[p]?=some r)(H:r.ty=298):∃q,p=q+2/\N6 c q:=by
 obtain⟨e,_⟩|⟨_,h⟩|⟨e,_⟩|⟨e,_⟩:=k.idx a (by refine rX H ?_;kernel_rfl)
 ·exact eD (ag H e) (by kernel_rfl)
 ·exact h
 ·exact eD (ag H e) (by kernel_rfl)
 ·exact eD (ag H e) (by kernel_rfl)
def KH.cl(k:KH c)(sc:cW (V2 (dy c (marked c))) 0 c.rows o bd):Cl K1 E1 (ay c o):=by
 have f:=λt a b=>sc.h7 (tZ k.P.hm) (q:=t) a b;refine Iw k.P k.1 k.2.1 sc (λp r H h=>?_) λp r s x H h i L=>?_
 ·by_cases e:r.ty=298
  ·obtain⟨q,rfl,g⟩:=k.NF H e;exact k.Ts (k.RX sc g) f h
  ·intro t C;obtain⟨a1,a2,A⟩:=k.1.row k.2.1 f H t C;refine⟨a1,a2,λs w=>?_⟩;obtain⟨b1,b2⟩:=A s w;exact⟨b1.imp_right λg=>(jU g).elim id λg=>ak (gU g).1 e,b2⟩
 ·refine⟨λe j=>?_,λe j=>?_⟩
  ·obtain⟨_,v,b,t,_,E,rfl⟩|⟨_,v,t,z,b,l,_,E,_,_,rfl⟩:=k.ty H h i<;>exact nn e
  ·obtain⟨⟨y,d⟩,v,b,t,_,E,rfl⟩|⟨⟨y,d⟩,v,t,z,b,l,_,E,_,_,_⟩:=k.ty H h i
   ·cases G:v.truth==b<;>rw[G]at e
    ·exact nn e
    obtain rfl:=aj e;intro u D;obtain rfl:=aj D;obtain⟨a1,a2,A⟩:=k.1.row k.2.1 f h t (rX E rfl);refine⟨a1,a2,λz n=>?_⟩;exact rX (mF d (rX E rfl) (m:=266) (by kernel_rfl)) ((A z n).new ((A z n).str (by refine rX d ?_;decide) (by refine rX d ?_;decide)) di (by decide) (by decide))
   ·obtain⟨q,B,g⟩:=k.NF h d;obtain rfl:p=q+1:=by exact Nat.add_right_cancel B
    exact k.Ts (k.RX sc g) f j
def pg(h:o[p]?=some (some r))(e:aK o p=n):(ay c o).rows[n]?=some (cA o r):=e▸bT h
def KH.n5(k:KH c)(sc:cW (V2 (dy c (marked c))) 0 c.rows o bd)(g:N6 c q):∃j l y,Nq (ay c o) (aK o q) j l y/\aK o (q+2)=aK o q+1/\aK o (q+3)=aK o q+2/\aK o (q+4)=aK o q+3:=by
 refine I λi=>?_;obtain⟨r,r2,r3,r4,b,l,y,w⟩:=k.RX sc g;have p2:=(cG w.o1).trans (aP w.o0);have P:=(aP w.o2).trans (rX p2 rfl);have h:=(aP w.o3).trans (rX P rfl);refine i (⟨b,aK o l,aK o y,⟨⟨_,bT w.o0,(aH _ _).trans w.a.2.1,?_⟩,⟨_,pg w.o2 p2,?_,rfl⟩,⟨_,pg w.o3 P,(aH _ _).trans w.e.2.1,?_⟩,⟨_,pg w.o4 h,(aH _ _).trans w.f.2.1,?_⟩,λe=>?_,λe=>?_⟩,p2,P,h⟩)
 ·refine rX (dm w.a.2.2) (rX w.a.2.2 ?_);exact rX P rfl
 ·exact(aH _ _).trans ((show r2.g*16+10=r2.g*16+r2.o.kd by exact rX w.d.2.2 rfl).trans w.d.2.1)
 ·show r3.o.cC _=_;exact rX w.e.2.2 rfl
 ·show r4.o.cC _=_;exact rX w.f.2.2 rfl
 ·exact rX w.hy (rX e rfl)
 ·exact rX w.hy (rX e ((aP w.o4).trans (rX h rfl)))
def KH.src(k:KH c)(sc:cW (V2 (dy c (marked c))) 0 c.rows o bd)(h:o[p]?=some (some r))(H:r.ty=n)(y:n≠266):∃d,c.rows[p]?=some d/\d.ty=n/\(d.ty≠298->r=d):=by
 refine I λu=>?_;cases gF sc (rX (sc.len).symm (cu h))with
 |keep w a G _ _ _=>obtain rfl:=aj (aj (ag h G));exact u (⟨_,a,H,λZ=>rfl⟩)
 |fst w s x a G m f _ _=>
  obtain⟨_,v,b,t,_,E,rfl⟩|⟨_,v,t,z,b,l,_,E,_,_,rfl⟩:=k.ty a G m<;>exact nn (aj (ag f h))
 |snd p w s x e a G m f=>
  subst e;obtain⟨⟨A,i⟩,v,b,t,_,E,rfl⟩|⟨⟨A,i⟩,v,t,z,b,l,_,E,_,_,rfl⟩:=k.ty a G m
  ·have j:=aj (ag f h);cases B:v.truth==b<;>rw[B]at j
   ·exact nn j
   obtain rfl:=aj j;exact ak (ag H (mF i (rX E rfl) (by kernel_rfl))) y
  ·obtain rfl:=aj (aj (ag f h));refine u (⟨s,G,?_,λh=>ak i h⟩);exact rX H.symm (show s.g*16+s.o.kd=s.g*16+10 by exact rX E rfl)
def KH.Lv(k:KH c)(sc:cW (V2 (dy c (marked c))) 0 c.rows o bd):RW (ay c o):=by
 refine⟨λP r d H=>?_,λP r T s d n z A u=>?_⟩
 ·obtain⟨p,r,f,rfl,rfl⟩:=cU d;rw[aH]at H;have j:r.ty≠266:=λe=>by rw[e]at H;exact ft H
  obtain⟨v,a1,a2,_⟩:=k.src sc f rfl j
  have D:aw [272,298,304,331] v.ty=true:=by
   refine rX a2 ?_;show(match Nat.beq 272 r.ty with|true=>true|false=>aw [298,304,331] r.ty)=true;refine rX H ?_;cases Nat.beq 272 r.ty<;>rfl
  obtain⟨e,_⟩|⟨_,q,rfl,g⟩|⟨_,q,rfl,g⟩|⟨_,q,rfl,g⟩:=k.idx a1 D
  ·rw[<-a2,e]at H;exact ft H
  ·obtain⟨a,l,y,G,e,_⟩:=k.n5 sc g;exact⟨_,1,a,l,y,e,Nat.one_pos,Nat.one_lt_succ_succ 2,G⟩
  ·obtain⟨a,l,y,G,_,e,_⟩:=k.n5 sc g;exact⟨_,2,a,l,y,e,Nat.zero_lt_two,bD rfl,G⟩
  ·obtain⟨a,l,y,G,_,_,e⟩:=k.n5 sc g;exact⟨_,3,a,l,y,e,Nat.zero_lt_succ 2,Nat.lt_add_one 3,G⟩
 ·obtain⟨p,r,f,rfl,rfl⟩:=cU d;obtain⟨t,H,rfl⟩:=fY z;obtain⟨p2,s,i,x,rfl⟩:=cU A;rw[aH]at n u;obtain⟨v,a1,a2,B⟩:=k.src sc f n (by decide);obtain rfl:=B (by refine rX a2 ?_;decide);obtain⟨S,b1,b2,_⟩:=k.src sc i u (by decide)
  have E:∃q,p2=q+3/\N6 c q:=by
   obtain⟨e,_⟩|⟨e,_⟩|⟨_,h⟩|⟨e,_⟩:=k.idx b1 (by refine rX b2 ?_;kernel_rfl)
   ·exact eD (ag b2 e) (by kernel_rfl)
   ·exact eD (ag b2 e) (by kernel_rfl)
   ·exact h
   ·exact eD (ag b2 e) (by kernel_rfl)
  obtain⟨q,rfl,g⟩:=E;obtain⟨C,r2,r3,r4,b,l,y,w⟩:=k.RX sc g;have p2:=aP w.o2;have L:=aP w.o3
  have N:t=q+3:=by
   obtain h|h|h:=Nat.lt_trichotomy t (q+3)
   ·have m:aK o t<=aK o (q+2):=eT (Nat.le_of_lt_succ h);exact ak (bt (bx (ag p2 x)) m) (Nat.not_succ_le_self _)
   ·exact h
   ·have m:aK o (q+3+1)<=aK o t:=eT (Nat.succ_le_of_lt h);exact ak (bt (bx L.symm) (bt m (bx x.symm))) (Nat.not_succ_le_self _)
  subst N;obtain⟨a,l,y,G,_⟩:=k.n5 sc (k.2.2.2 p r _ _ a1 a2 H b1 b2);exact⟨a,l,y,G⟩
end
inductive O4(c:PC)(o:List (Option R))(q:Nat)(k:Bool)(l:Nat):Prop
 |same (r):o[q]?=some (some r)->r.o=.br k l->r.ty=331->O4 c o q k l
 |turn (r l'):o[q]?=some (some r)->r.o=.br (!k) l'->r.ty=331->l=q+2->o[q+1]?=some none->O4 c o q k l
section
variable{c:PC}{y:Nat}
abbrev UH(c:PC):Prop:=Cl K1 E1 c/\Ok c/\RW c
def Er(a b:Nat):Bool:=uj a b 235 298
def tU1:c4 (lr K1 K2 [298] fZ l3 Er yn) (ui K1 l3)=true:=by kernel_rfl
def abd(h:Cl K1 E1 c)(b:c.rows[q]?=some s)(d:aw c3 s.ty=false)(e:s.ty≠304):marked c q=false:=by
 cases f:marked c q with
 |false=>rfl
 |true=>
  obtain H|⟨a,H⟩:=h.marked f b
  ·exact ft (ag d H)
  ·exact ak (En H).2 e
def UH.idx(u:UH c)(h:c.rows[p]?=some r)(H:aw [298,304,331] r.ty=true):∃q k l y,Nq c q k l y/\((r.ty=298/\p=q+1)\/(r.ty=304/\p=q+2)\/(r.ty=331/\p=q+3)):=by
 refine I λa=>?_;obtain⟨q,i,k,l,y,rfl,b,d,g⟩:=u.2.2.1 p r h H;refine a (⟨q,k,l,y,g,?_⟩);obtain⟨_,⟨r2,D,e,_⟩,⟨r3,E,f,_⟩,⟨r4,j,m,_⟩,_⟩:=g;have:=em4 b d;obtain rfl|rfl|rfl:=this
 ·obtain rfl:=aj (ag h D);exact .inl ⟨e,rfl⟩
 ·obtain rfl:=aj (ag h E);exact .inr (.inl ⟨f,rfl⟩)
 ·obtain rfl:=aj (ag h j);exact .inr (.inr ⟨m,rfl⟩)
def GK{o:O}(h:o.kd=11)(H:o.bo=some t):∃b,o=.br b t:=by
 obtain⟨b,u,a⟩:=wu h;subst a;obtain rfl:=aj H;exact⟨b,rfl⟩
def Nq.qW(u:UH c)(g:Nq c q k l y):∃r s b,c.rows[q]?=some r/\r.ty=235/\c.rows[q+1]?=some s/\r.o=.br b (q+2)/\fy (marked c) q r s=some (some ⟨.br (!b) y,r.g⟩,none):=by
 refine I λa=>?_;obtain⟨⟨e,a1,a2,A⟩,⟨r2,d,D,f⟩,_⟩:=g;obtain⟨b,h⟩:=GK (wx a2) A;refine a (⟨e,r2,b,a1,a2,d,h,?_⟩);unfold fy;refine rX h (rX f ?_);dsimp only[O.bq,O.jt];refine rX (abd u.1 d (by refine rX D ?_;kernel_rfl) (by refine rX D ?_;decide)) (rX (beq_self_eq_true _) ?_);rfl
def UH.dC(u:UH c)(a:c.rows[p]?=some r)(H:c.rows[p+1]?=some s)(d:Er r.ty s.ty=true):fy (marked c) p r s≠none:=by
 refine I λf=>?_;obtain⟨m,E⟩:=gU d;obtain⟨q,k,l,y,g,⟨_,e⟩|⟨e,_⟩|⟨e,_⟩⟩:=u.idx H (by refine rX E ?_;kernel_rfl)
 ·obtain rfl:=bz e;obtain⟨n,S,b,G,_,i,_,j⟩:=g.qW u;obtain rfl:=aj (ag a G);obtain rfl:=aj (ag H i);exact f (rX j (λh=>nn h.symm))
 ·exact eD (ag E e) (by kernel_rfl)
 ·exact eD (ag E e) (by kernel_rfl)
def UH.P(u:UH c):P2 c (fy (marked c)) K1 K2 [298] fZ E1 bL l3 Er yn where
 f:=ij (by kernel_rfl)
 h9:=by kernel_rfl
 lC:=(aG tU1).1
 no:=(aG tU1).2
 hm p r s x h:=let⟨_,_,h⟩:=cJ h;h.m
 hf p r s x _ _ h:=by
  obtain⟨b,l,h⟩:=cJ h;refine⟨lu (bR (rX h.br rfl)) (bR (rX h.s rfl)),?_⟩;exact rX h.a (lB (congrArg (λn=>[n]) (km ⟨_,_,h.br⟩)))
 mu p r s h1 h2 hm hn:=u.dC h1 h2 hm hn
 h3 p r s x h r':=by
  obtain⟨b,l,h⟩:=cJ h;exact rX h.a (⟨λe H=>by obtain rfl:=aj e;exact ag (km ⟨_,_,h.br⟩) H,λh=>nn h⟩)
def yo(sc:cW (V2 w) 0 c.rows o bd)(h:c.rows[p]?=some r)(H:c.rows[p+1]?=some s)(d:w p r s=some x)(f:∀P a S X,c.rows[P]?=some a->w P a S=some X->S≠r):o[p]?=some x.1/\o[p+1]?=some x.2:=by
 refine I λk=>?_;cases gF sc (cu h)with
 |keep a g _ _ _ G=>
  obtain rfl:=aj (ag h g);exact nn (ag (G s H) d)
 |fst a S X g G b i j _=>
  obtain rfl:=aj (ag h g);obtain rfl:=aj (ag H G);obtain rfl:=aj (ag d b);exact k (⟨i,j⟩)
 |snd P a S X e g G b _=>
  subst e;obtain rfl:=aj (ag h G);exact ak rfl (f _ _ _ _ g b)
def NG(H:r.o.kd≠10):∀p a S x,c.rows[p]?=some a->fy m p a S=some x->S≠r:=λp a S x Z h e=>by
 obtain⟨b,l,h⟩:=cJ h;subst e;exact H (rX h.s rfl)
def Nq.oo(u:UH c)(sc:cW (V2 (fy (marked c))) 0 c.rows o bd)(g:Nq c q k l y):∃r b,c.rows[q]?=some r/\r.ty=235/\r.o=.br b (q+2)/\o[q]?=some (some ⟨.br (!b) y,r.g⟩)/\o[q+1]?=some none:=by
 obtain⟨r,s,b,H,d,e,a,f⟩:=g.qW u;obtain⟨E,i⟩:=yo sc H e f (NG (rX a (λh=>nomatch h)));exact⟨r,b,H,d,a,E,i⟩
def UH.cl(u:UH c)(sc:cW (V2 (fy (marked c))) 0 c.rows o bd):Cl K2 bL (ay c o):=by
 have j:∀p r,c.rows[p]?=some r->m_ c bd E1 p r:=λp r H=>u.1.row u.2.1 (λt a b=>sc.h7 (tZ u.P.hm) a b) H;have S:∀{a b p t},TG E1 a b p t->¬(a=235/\b=304)->TG bL a b p t:=λh v=>⟨.inl (h.1.elim id λg=>ak (En g) v),h.2⟩;refine Iw u.P u.1 u.2.1 sc (λp r H i t f=>?_) λp r s x H i w B=>?_
 ·have a1:=(j p r H t f).1;have a2:=(j p r H t f).2.1;have A:=(j p r H t f).2.2;refine⟨a1,a2,λs m=>S (A s m) λe=>?_⟩;obtain⟨k,l,y,g⟩:=u.2.2.2 p r t s H e.1 f m e.2;obtain⟨B,b,b1,_,b2,b3,_⟩:=g.oo u sc;obtain rfl:=aj (ag H b1);have b4:=congrArg R.o (aj (aj (ag b3 i)));rw[b2]at b4;have b7:(!b)=b:=(congrArg O.Xd b4);cases b
  ·exact tf b7
  ·exact ft b7
 ·obtain⟨b,l,d⟩:=cJ w;refine rX d.a ?_;refine⟨λe Z t f=>?_,λh=>nn h⟩;obtain rfl:=aj e;obtain rfl:=aj f;obtain⟨a1,a2,A⟩:=j _ _ i l (rX d.s rfl);refine⟨a1,a2,λz n=>?_⟩;refine rX (km ⟨_,_,d.br⟩) ?_;refine⟨(S (A z n) λe=>dN (rX d.s rfl) e.1 (by kernel_rfl)).1,(S (A z n) λe=>dN (rX d.s rfl) e.1 (by kernel_rfl)).2.1.imp_left Nat.lt_of_succ_lt,λe=>?_,λe=>dN (rX d.br rfl) e (by kernel_rfl)⟩;exact dN (rX d.s rfl) (px (b:=400) (e▸u.1.oH H i) (by kernel_rfl) (by kernel_rfl)) (by kernel_rfl)
def Nq.n4(u:UH c)(sc:cW (V2 (fy (marked c))) 0 c.rows o bd)(g:Nq c q k l y):∃L l' Y,N4 False (ay c o) (aK o q) L l' Y/\aK o (q+3)=aK o q+2:=by
 refine I λv=>?_;obtain⟨N,b,a1,a2,_,z,P⟩:=g.oo u sc;obtain⟨_,_,⟨r3,E,n,Q⟩,⟨r4,i,t,C⟩,S,T⟩:=g
 have D:o[q+2]?=some (some r3):=by
  refine I λH=>?_;cases gF sc (cu E)with
  |keep h G d _ _ _=>obtain rfl:=aj (ag E G);exact H (d)
  |fst h s x G d f _ _ _=>
   obtain⟨b,l,w⟩:=cJ f;obtain rfl:=aj (ag E G);exact dN (rX w.br rfl) n (by kernel_rfl)
  |snd X h s x e G d f _=>
   obtain⟨b,l,w⟩:=cJ f;obtain rfl:=bz e;obtain rfl:=aj (ag E d);exact dN (rX w.s rfl) n (by kernel_rfl)
 have V:O4 c o (q+3) k l:=by
  cases gF sc (cu i)with
  |keep h G d _ _ _=>obtain rfl:=aj (ag i G);exact .same _ d C t
  |fst h s x G d f j m _=>
   obtain⟨b,l',w⟩:=cJ f;obtain rfl:=aj (ag i G);rw[w.a]at j m;cases ag C w.br;exact .turn _ l' j rfl ((km ⟨_,_,w.br⟩).trans t) rfl m
  |snd X h s x e G d f _=>
   obtain⟨b,l,w⟩:=cJ f;obtain rfl:=bz e;obtain rfl:=aj (ag i d);exact dN (rX w.s rfl) t (by kernel_rfl)
 have p2:=(cG P).trans (aP z);have p:=(aP D).trans (rX p2 rfl);have A:Iz (ay c o) (aK o q) 235 (aK o y):=⟨_,bT z,(aH _ _).trans ((km ⟨_,_,‹N.o=_›⟩).trans a2),rfl⟩;have B:B2 (ay c o) (aK o q+1) 304 (.push .ff):=⟨_,pg D p2,(aH _ _).trans n,by show r3.o.cC _=_;exact rX Q rfl⟩;cases V with
 |same r G d f=>
  refine v (⟨k,aK o l,aK o y,⟨A,B,⟨_,pg G p,(aH _ _).trans f,by show r.o.cC _=_;exact rX d rfl⟩,λe=>.inl ?_⟩,p⟩);exact rX (T e) ((aP G).trans (rX p rfl))
 |turn r l' G d f j m=>
  refine v (⟨!k,aK o l',aK o y,⟨A,B,⟨_,pg G p,(aH _ _).trans f,by show r.o.cC _=_;exact rX d rfl⟩,λe=>.inl ?_⟩,p⟩);have W:k=true:=by cases k;exact tf e;rfl
  exact rX (S W) (rX j ((cG m).trans ((aP G).trans (rX p rfl))))
def UH.in4(u:UH c)(sc:cW (V2 (fy (marked c))) 0 c.rows o bd):hP False (ay c o):=by
 intro P x z H;refine I λd=>?_;obtain⟨p,r,h,rfl,rfl⟩:=cU z;rw[aH]at H
 have v:∃i,c.rows[p]?=some i/\i.ty=331:=by
  refine I λd=>?_;cases gF sc (rX (sc.len).symm (cu h))with
  |keep n f j _ _ _=>obtain rfl:=aj (aj (ag h j));exact d (⟨_,f,H⟩)
  |fst n s x f j m G _ _=>
   obtain⟨b,l,w⟩:=cJ m;rw[w.a]at G;obtain rfl:=aj (aj (ag h G));exact d (⟨_,f,ag (km ⟨_,_,w.br⟩) H⟩)
  |snd A n s x e f j m G=>
   obtain⟨b,l,w⟩:=cJ m;rw[w.a]at G;subst e;exact nn (aj (ag G h))
 obtain⟨i,a1,a2⟩:=v;obtain⟨q,k,l,y,g,⟨e,_⟩|⟨e,_⟩|⟨_,rfl⟩⟩:=u.idx a1 (by refine rX a2 ?_;kernel_rfl)
 ·exact eD (ag a2 e) (by kernel_rfl)
 ·exact eD (ag a2 e) (by kernel_rfl)
 ·obtain⟨t,l',Y,G,e⟩:=g.n4 u sc;exact d (⟨_,t,l',Y,e,G⟩)
end
def lR(c:PC):Prop:=∀(p:Nat) (r:R) (t:Nat) (s:R),c.rows[p]?=some r->r.o.bo=some t->c.rows[t]?=some s->s.o.isJ=false
def Zt(c:PC):Prop:=∀(p:Nat) (r:R),c.rows[p]?=some r->r.ty=330->∃q y,p=q+1/\Iz c q 235 y/\(y=q+2\/∃s,c.rows[q+2]?=some s/\s.o.isJ=true)
def Zu(c:PC):Prop:=∀(p:Nat) (r:R),c.rows[p]?=some r->r.ty=330->∃s,c.rows[p+1]?=some s/\s.o.isJ=true
section
variable{c:PC}{p:Nat}{r s:R}{y:Nat}
def Tt(c:PC)(o:List (Option R))(q:Nat):Prop:=(∀r,c.rows[q]?=some r->o[q]?=some (some r))/\∀r,c.rows[q+1]?=some r->o[q+1]?=some (some r)
def pB(n:hP False c)(i:∀(p:Nat) (r:R),o[p]?=some (some r)->r.ty=331->c.rows[p]?=some r)(j:∀(q:Nat) k l y (r:R),N4 False c q k l y->o[q+2]?=some (some r)->c.rows[q+2]?=some r->Tt c o q):hP False (ay c o):=by
 intro P x C d;refine I λm=>?_;obtain⟨p,r,H,rfl,rfl⟩:=cU C;rw[aH]at d;have b:=i p r H d;obtain⟨q,k,l,y,rfl,g⟩:=n p r b d;obtain⟨a,f⟩:=j q k l y r g H b;obtain⟨⟨D,a1,a2,A⟩,⟨r3,E,t,u⟩,⟨r4,v,w,z⟩,B⟩:=g;obtain rfl:=aj (ag b v);have p2:=(aP (f _ E)).trans (rX (aP (a _ a1)) rfl);refine m (⟨aK o q,k,aK o l,aK o y,p2,⟨_,bT (a _ a1),(aH _ _).trans a2,?_⟩,⟨_,pg (f _ E) (aP (a _ a1)),(aH _ _).trans t,?_⟩,⟨_,pg H p2,(aH _ _).trans w,?_⟩,λe=>(B e).imp (λe=>?_) λh=>h.1.elim⟩)
 ·exact rX (dm A) (rX A rfl)
 ·show r3.o.cC _=_;exact rX u rfl
 ·show r.o.cC _=_;exact rX z rfl
 ·exact rX e ((aP H).trans (rX p2 rfl))
def N4.no(g:N4 False c q k l y):(∃r,c.rows[q]?=some r/\r.ty=235)/\(∃r,c.rows[q+1]?=some r/\r.ty=304)/\∃r,c.rows[q+2]?=some r/\r.ty=331:=
 ⟨g.1.imp λZ a=>⟨a.1,a.2.1⟩,g.2.imp λZ a=>⟨a.1,a.2.1⟩,g.3.imp λZ a=>⟨a.1,a.2.1⟩⟩
def rG(H:c.rows[q]?=some r0)(a:c.rows[q+1]?=some r1)(k:o[q]?=some (some r0))(b:o[q+1]?=some (some r1)):Tt c o q:=⟨λr h=>by obtain rfl:=aj (ag h H);exact k,λr h=>by obtain rfl:=aj (ag h a);exact b⟩
def zP(sc:cW (V2 w) 0 c.rows o bd)(h:c.rows[p]?=some r)(H:∀s x,c.rows[p+1]?=some s->w p r s=some x->False)(d:∀P a x,w P a r=some x->False):o[p]?=some (some r):=by
 cases gF sc (cu h)with
 |keep a G g _ _ _=>obtain rfl:=aj (ag h G);exact g
 |fst a s x G g b _ _ _=>obtain rfl:=aj (ag h G);exact(H _ _ g b).elim
 |snd P a s x e G g b _=>subst e;obtain rfl:=aj (ag h g);exact(d _ _ _ b).elim
def Zv(n:hP False c)(h:Cl K bL c)(o:Ok c):hP False (cQ c):=by
 show hP False (ay c (cc c bh));refine pB n (λp r i j=>?_) λq k l y r g Z Z=>?_
 ·obtain⟨a,m,G⟩:=eB i;obtain⟨_,e⟩|⟨_,e⟩|⟨b,_,e⟩:=cf p a<;>rw[e]at G<;>cases G
  ·exact m
  ·exact dN rfl j (by kernel_rfl)
 ·obtain⟨⟨a,a1,a2,A⟩,⟨r3,d,f,t⟩,_⟩:=g;refine rG a1 d ?_ ?_
  ·obtain⟨_,e⟩|⟨E,_⟩|⟨b,E,_⟩:=cf q a
   ·exact(bN a1).trans (congrArg some e)
   ·exact dN (rX E rfl) a2 (by kernel_rfl)
   ·have H:=(h.tg _ _ _ _ a1 (rX E rfl) d).1.elim id λh=>ft h;rw[f]at H;exact ft H
  ·obtain⟨_,e⟩|⟨E,_⟩|⟨b,E,_⟩:=cf (q+1) r3
   ·exact(bN d).trans (congrArg some e)
   ·exact dN (rX E rfl) f (by kernel_rfl)
   ·exact dN (rX E rfl) f (by kernel_rfl)
def Zw(n:hP False c)(h:Cl K bL c)(o:Ok c)(u:aw K 298=false):hP False (cR c):=by
 show hP False (ay c (cc c (ck c)));refine pB n (λp r H Z=>?_) λq k l y r g b v=>?_
 ·obtain⟨d,f,G⟩:=eB H;obtain⟨_,rfl⟩:=eW G;exact f
 ·obtain⟨⟨d,a1,a2⟩,⟨r3,E,i⟩,r4,j,m⟩:=g.no;obtain⟨_,_,G⟩:=eB b;obtain⟨q1,_,e,a,_⟩:=h.inner o j (by refine rX m ?_;kernel_rfl) ((eW G).1);obtain rfl:=bz e;obtain⟨q2,_,e,t,_⟩:=h.inner o E (by refine rX i ?_;kernel_rfl) a;obtain rfl:=bz e;exact rG a1 E ((bN a1).trans (congrArg some (jM t))) ((bN E).trans (congrArg some (jM a)))
def B3(n:hP False c)(sc:cW (V2 w) 0 c.rows o bd)(d:∀p r s x,w p r s=some x->∀a,(x.1=some a->a=r)/\(x.2=some a->a.ty≠331))(H:∀p r s x,w p r s=some x->r.ty≠235/\s.ty≠235/\s.ty≠304/\(r.ty=304->s.ty≠331)):hP False (ay c o):=by
 refine pB n (λp r G i=>?_) λq k l y r g Z Z=>?_
 ·cases gF sc (rX (sc.len).symm (cu G))with
  |keep a a1 a2 _ _ _=>obtain rfl:=aj (aj (ag G a2));exact a1
  |fst a s x a1 _ A b _ _=>exact rX ((d _ _ _ _ A r).1 (aj (ag b G))) (a1)
  |snd P a s x e _ _ A b=>subst e;exact ak i ((d _ _ _ _ A r).2 (aj (ag b G)))
 ·obtain⟨⟨t,a1,a2⟩,⟨r3,E,f⟩,r4,j,m⟩:=g.no;refine rG a1 E (zP sc a1 (λs x Z h=>ak a2 (H _ _ _ _ h).1) λP a x h=>ak a2 (H _ _ _ _ h).2.1) (zP sc E (λs x g h=>?_) λP a x h=>ak f (H _ _ _ _ h).2.2.1);obtain rfl:=aj (ag j g);exact ak m ((H _ _ _ _ h).2.2.2 f)
def B4(h:r.o.kd=n)(H:Nat.beq n (m%16)=false):r.ty≠m:=λe=>dN h e H
def Zx{o:O}(h:o.isPlain=true):o.kd≠11:=λe=>by unfold O.isPlain at h;rw[e]at h;exact ft h
def Zy(n:hP False c):hP False (dE c):=by
 obtain⟨o,B,e,sc⟩:=c8 BQ;unfold dE;refine rX e ?_;refine B3 n sc (λp r s x h b=>wo (dG h).a b) λp r s x h=>?_;have k:s.o.kd=7:=by exact rX (dG h).s rfl
 exact⟨λe=>Zx (dG h).r (ag (jn r) (rX e rfl)),B4 k (by kernel_rfl),B4 k (by kernel_rfl),λZ=>B4 k (by kernel_rfl)⟩
def Zz(n:hP False c):hP False (gb c):=by
 obtain⟨o,B,e,sc⟩:=c8 Eh;unfold gb;refine rX e ?_;refine B3 n sc (λp r s x h b=>?_) λp r s x h=>?_
 ·obtain⟨_,e⟩|⟨_,e⟩:=(dH h).a<;>refine rX e ?_
  ·exact⟨λh=>nn h,λh=>nn h⟩
  ·exact⟨λh=>(aj h).symm,λh=>nn h⟩
 ·have w:=dH h;have k:s.o.kd=9:=by exact rX w.s rfl
  refine⟨?_,B4 k (by kernel_rfl),B4 k (by kernel_rfl),λZ=>B4 k (by kernel_rfl)⟩;obtain⟨e,_⟩|⟨e,_⟩:=w.a
  ·exact B4 (n:=9) (rX e rfl) (by kernel_rfl)
  ·exact B4 (rX e rfl) (by kernel_rfl)
def NH(sc:cW (V3 (marked c)) 0 c.rows o bd)(H:c.rows[p]?=some r)(b:dY [8,3,5,7] r.ty=false):o[p]?=some (some r):=by
 have no:∀{n},r.o.kd=n->aw [8,3,5,7] n=true->False:=λe h=>by
  have:dY [8,3,5,7] r.ty=true:=bR (rX e h);exact tf (ag this b)
 cases t7 sc (cu H)with
 |keep d g G _=>obtain rfl:=aj (ag H g);exact G
 |dC P i d s z e f a1 a2 A a _ _ _=>
  subst e;have:=p_ f;obtain rfl|rfl|rfl:=this
  ·obtain rfl:=aj (ag H a1);exact(no (rX ((cM a).1) rfl) rfl).elim
  ·obtain rfl:=aj (ag H a2);exact(pz ((cM a).2.1)).elim (λe=>(no e rfl).elim) λe=>(no e rfl).elim
  ·obtain rfl:=aj (ag H A);exact(no (rX ((cM a).2.2.1) rfl) rfl).elim
def NI(sc:cW (V3 (marked c)) 0 c.rows o bd)(h:o[p]?=some (some r)):c.rows[p]?=some r:=by
 cases t7 sc (rX (sc.len).symm (cu h))with
 |keep a g G _=>obtain rfl:=aj (aj (ag h G));exact g
 |dC P i a s z e H a1 a2 A b b1 b2 b3=>
  subst e;have:=p_ H;obtain rfl|rfl|rfl:=this
  ·exact nn (aj (ag b1 h))
  ·obtain rfl:=aj (aj (ag h b2));exact a2
  ·exact nn (aj (ag b3 h))
def ZA(n:hP False c):hP False (dU c):=by
 obtain⟨o,b,e,sc⟩:=gw c;refine rX e ?_;refine pB n (λp r G Z=>NI sc G) λq k l y r g Z Z=>?_;obtain⟨⟨d,a1,a2⟩,⟨r3,E,a⟩,_⟩:=g.no;exact rG a1 E (NH sc a1 (by refine rX a2 ?_;kernel_rfl)) (NH sc E (by refine rX a ?_;kernel_rfl))
def jN(h:r.ty=s.ty):r.o.isJ=s.o.isJ:=by
 show aw [10] r.o.kd=aw [10] s.o.kd;rw[<-jn,<-jn,h]
def ZC(n:hP False c)(h:Cl K bL c)(a:Ok c):hP True (bK c):=by
 intro p x m u;refine I λw=>?_;obtain⟨r,b,rfl⟩:=l5 a m;have T:=λ{p r} (g:c.rows[p]?=some r)=>h.gQ a fL g;rw[T b]at u;obtain⟨q,k,l,y,rfl,⟨i,a1,a2,A⟩,⟨r3,E,z,j⟩,⟨r4,B,C,f⟩,D⟩:=n p r b u;obtain rfl:=aj (ag b B)
 have G:(bF c r).o=.br k (toEnd c l):=by
  obtain⟨H,_⟩|⟨t,H,e⟩:=h.oF a fL b
  ·rw[f]at H;exact nn H.symm
  ·rw[f]at H;obtain rfl:=aj H;refine rX e ?_;show r.o.cC _=_;exact rX f rfl
 have L:(bF c i).o.bo=some (toEnd c y):=by
  obtain⟨H,_⟩|⟨t,H,e⟩:=h.oF a fL a1
  ·exact nn (ag H A)
  ·obtain rfl:=aj (ag H A);exact rX e (dm A)
 refine w (⟨q,k,_,_,rfl,⟨_,iO a a1,(T a1).trans a2,L⟩,⟨_,iO a E,(T E).trans z,?_⟩,⟨_,m,(T b).trans C,G⟩,λe=>(D e).elim (λe=>?_) λh=>h.1.elim⟩)
 ·exact rX (h.zO a fL E (tc j)) (j)
 ·subst e;have N:=a.t i (gh a1) _ A;have d:=dv N;cases v:c.rows[q+3].o.isJ with
  |false=>exact .inl (kb d v)
  |true=>exact .inr ⟨ai,_,iO a d,(jN (T d)).trans v⟩
def NJ(h:Cl K bL c)(o:Ok c):lR (bK c):=by
 intro p x t s g a i;obtain⟨r,b,rfl⟩:=l5 o g;obtain⟨z,d,rfl⟩:=l5 o i;refine rX (jN (h.gQ o fL d)) ?_;obtain⟨H,e⟩|⟨T,H,e⟩:=h.oF o fL b<;>have a:=e▸a
 ·exact nn (ag H a)
 ·cases ag (dm H) a;obtain⟨w,E,f,_⟩:=h.toEnd o fL b H;obtain rfl:=aj (ag E d);exact f
def Tu(h:Cl K bL c)(j:lR c)(m:Ok c)(sc:cW (V2 w) 0 c.rows o bd)(f:∀p r s x,c.rows[p]?=some r->c.rows[p+1]?=some s->w p r s=some x->aw c3 r.ty=false/\(aw c3 s.ty=false\/s.o.isJ=true))(n:∀(p:Nat) (r:R),o[p]?=some (some r)->∀t,r.o.bo=some t->∃(p0:Nat) (b:R),c.rows[p0]?=some b/\b.o.bo=some t):lR (ay c o):=by
 intro P x T s A B k;obtain⟨p,r,u,rfl,rfl⟩:=cU A;obtain⟨t,v,rfl⟩:=fY B;obtain⟨p0,b,a1,a2⟩:=n p r u t v;have i:=m.t b (gh a1) t a2;have H:=dv i;have a:=(h.tg _ _ _ _ a1 a2 H).1.elim id λh=>ft h
 have z:o[t]?=some (some c.rows[t]):=by
  cases gF sc i with
  |keep l g G _ _ _=>obtain rfl:=aj (ag H g);exact G
  |fst l s x g G d _ _ _=>obtain rfl:=aj (ag H g);exact tf (ag a (f _ _ _ _ g G d).1)
  |snd C l s x e g G d _=>
   subst e;obtain rfl:=aj (ag H G);exact(f _ _ _ _ g G d).2.elim (λh=>tf (ag a h)) λh=>tf (ag h (j _ _ _ _ a1 a2 H))
 rw[bT z]at k;obtain rfl:=aj k;exact rX (jN (aH o _)) (j _ _ _ _ a1 a2 H)
end
section
variable{p:Nat}{r:R}
def GL(h:Cl KQ bL c)(sc:cW (V2 (dy c (marked c))) 0 c.rows o bd)(H:c.rows[p]?=some r)(d:r.ty≠304)(f:r.ty≠331):o[p]?=some (some r):=by
 cases gF sc (cu H)with
 |keep b g G _ _ _=>obtain rfl:=aj (ag H g);exact G
 |fst b s x g G a _ _ _=>obtain rfl:=aj (ag H g);exact ak (l4 h g G a).1.1 d
 |snd P b s x e g G a _=>subst e;obtain rfl:=aj (ag H G);exact ak (l4 h g G a).1.2 f
def NK(h:Cl KQ bL c)(sc:cW (V2 (dy c (marked c))) 0 c.rows o bd)(H:o[p]?=some (some r)):c.rows[p]?=some r\/∃q f S v k t,p=q+1/\c.rows[q]?=some f/\c.rows[q+1]?=some S/\f.ty=304/\S.ty=331/\f.o=.push v/\S.o=.br k t/\v.truth=k/\r=⟨.aM t,S.g⟩/\o[q]?=some none:=by
 refine I λm=>?_;cases gF sc (rX (sc.len).symm (cu H))with
 |keep j G a _ _ _=>obtain rfl:=aj (aj (ag H a));exact m (.inl G)
 |fst j s x G a b l _ _=>
  obtain⟨_,v,k,t,_,_,rfl⟩:=l4 h G a b;exact nn (aj (ag l H))
 |snd P j s x e G a b l=>
  subst e
  have z:o[P]?=some x.1:=by
   cases gF sc (cu G)with
   |keep d a1 _ _ _ a2=>obtain rfl:=aj (ag G a1);exact nn (ag (a2 _ a) b)
   |fst d B X a1 a2 A C _ _=>obtain rfl:=aj (ag G a1);obtain rfl:=aj (ag a a2);obtain rfl:=aj (ag b A);exact C
   |snd D d B X e a1 a2 A _=>
    subst e;obtain rfl:=aj (ag G a2);exact eD (ag (l4 h G a b).1.1 (l4 h a1 a2 A).1.2) (by kernel_rfl)
  obtain⟨⟨E,u⟩,v,k,t,w,y,rfl⟩:=l4 h G a b;have i:=aj (ag l H);cases n:v.truth==k<;>rw[n]at i
  ·exact nn i
  obtain rfl:=aj i;exact m (.inr ⟨P,j,s,v,k,t,rfl,G,a,E,u,w,y,beq_iff_eq.1 n,rfl,z⟩)
def ZD(n:hP True c)(h:Cl KQ bL c)(H:∀(p:Nat) (r:R),c.rows[p]?=some r->r.ty≠330)(sc:cW (V2 (dy c (marked c))) 0 c.rows o bd):Zt (ay c o):=by
 intro P x S f;obtain⟨p,r,a,rfl,rfl⟩:=cU S;rw[aH]at f;obtain j|⟨s,T,V,v,k,t,rfl,a1,a2,W,A,u,w,B,rfl,C⟩:=NK h sc a
 ·exact ak f (H _ _ j)
 obtain⟨q,X,l,y,e,⟨Y,b1,b2,b3⟩,⟨r3,E,e2,D⟩,⟨r4,G,f2,L⟩,Q⟩:=n _ _ a2 A;obtain rfl:s=q+1:=by exact Nat.add_right_cancel e
 obtain rfl:=aj (ag a1 E);obtain rfl:=aj (ag a2 G);cases ag w L;cases ag u D;subst B;have d:=GL h sc b1 (by refine rX b2 ?_;decide) (by refine rX b2 ?_;decide);have p2:=(cG C).trans (aP d);refine⟨aK o q,aK o y,p2,⟨_,bT d,(aH _ _).trans b2,?_⟩,(Q rfl).imp (λe=>?_) λ⟨_,z,g,b⟩=>?_⟩
 ·exact rX (dm b3) (rX b3 rfl)
 ·exact rX e ((aP a).trans (rX p2 rfl))
 ·have N:∀{m},dY [10] m=false->z.ty≠m:=λi e=>tf (ag (rD b) (rX e i));exact⟨_,pg (GL h sc g (N (by kernel_rfl)) (N (by kernel_rfl))) ((aP a).trans (rX p2 rfl)),(jN (aH o z)).trans b⟩
def ZE(h:Cl KQ bL c)(j:lR c)(a:Ok c)(sc:cW (V2 (dy c (marked c))) 0 c.rows o bd):lR (ay c o):=by
 refine Tu h j a sc (λp r s x b d e=>?_) λp r f t H=>?_
 ·obtain⟨⟨E,g⟩,_⟩:=l4 h b d e;exact rX E (rX g (⟨by kernel_rfl,.inl (by kernel_rfl)⟩))
 ·obtain i|⟨P,l,S,v,k,t',rfl,a1,a2,m,n,u,A,w,rfl,y⟩:=NK h sc f
  ·exact⟨_,_,i,H⟩
  ·obtain rfl:=aj H;exact⟨_,_,a2,rX A rfl⟩
def NL(sc:cW (V2 (fy (marked c))) 0 c.rows o bd)(h:o[p]?=some (some r)):c.rows[p]?=some r\/∃s b l z,c.rows[p]?=some s/\c.rows[p+1]?=some z/\s.o=.br b (p+2)/\z.o=.aM l/\r=⟨.br (!b) l,s.g⟩:=by
 refine I λk=>?_;cases gF sc (rX (sc.len).symm (cu h))with
 |keep i d f _ _ _=>obtain rfl:=aj (aj (ag h f));exact k (.inl d)
 |fst i s x d f j G _ _=>
  obtain⟨b,l,w⟩:=cJ j;rw[w.a]at G;obtain rfl:=aj (aj (ag h G));exact k (.inr ⟨i,b,l,s,d,f,w.br,w.s,rfl⟩)
 |snd P i s x e d f j G=>
  subst e;obtain⟨b,l,w⟩:=cJ j;rw[w.a]at G;exact nn (aj (ag G h))
def ZF(n:Zt c)(h:Cl K bL c)(sc:cW (V2 (fy (marked c))) 0 c.rows o bd):Zu (ay c o):=by
 intro P x C a;refine I λd=>?_;obtain⟨p,r,f,rfl,rfl⟩:=cU C;rw[aH]at a;have k:=ag (jn r) (rX a rfl);obtain H|⟨s,b,l,z,_,_,_,_,rfl⟩:=NL sc f
 case inr=>exact nomatch k
 obtain⟨q,y,rfl,⟨m,a1,a2,A⟩,e|⟨s,s1,s2⟩⟩:=n _ _ H a
 ·subst e;obtain⟨b,t⟩:=GK (wx a2) A;obtain⟨l,v⟩:=rE k
  have B:fy (marked c) q m r=some (some ⟨.br (!b) l,m.g⟩,none):=by
   unfold fy;refine rX t (rX v ?_);dsimp only[O.bq,O.jt];refine rX (El h H (by refine rX a ?_;kernel_rfl)) (rX (beq_self_eq_true _) ?_);rfl
  have:=(yo sc a1 H B (NG (rX t (λh=>nomatch h)))).2;exact nn (aj (ag this f))
 ·have k2:o[q+2]?=some (some s):=by
   refine I λd=>?_;cases gF sc (cu s1)with
   |keep u G i _ _ _=>obtain rfl:=aj (ag s1 G);exact d (i)
   |fst u S x G i j _ _ _=>
    obtain⟨b,l,w⟩:=cJ j;obtain rfl:=aj (ag s1 G);rw[w.br]at s2;exact ft s2
   |snd D u S x e G i j _=>
    obtain⟨b,l,w⟩:=cJ j;obtain rfl:=bz e;obtain rfl:=aj (ag H G);rw[w.br]at k;exact nomatch k
  exact d (⟨_,pg k2 (aP f),(jN (aH o s)).trans s2⟩)
def brT:cT (λa=>imp (dY [11] a) false) c3=true:=by kernel_rfl
def Es(h:∃b t,r.o=.br b t):aw c3 r.ty=false:=by
 cases e:aw c3 r.ty with
 |false=>rfl
 |true=>obtain⟨b,t,h⟩:=h;exact ft (bO (bC brT e) (bR (rX h rfl)))
def ZG(h:Cl K bL c)(j:lR c)(a:Ok c)(sc:cW (V2 (fy (marked c))) 0 c.rows o bd):lR (ay c o):=by
 refine Tu h j a sc (λp r s x Z Z d=>?_) λp r e t H=>?_
 ·obtain⟨b,l,w⟩:=cJ d;exact⟨Es ⟨_,_,w.br⟩,.inr (rX w.s rfl)⟩
 ·obtain f|⟨s,b,l,z,_,a2,_,A,rfl⟩:=NL sc e
  ·exact⟨_,_,f,H⟩
  ·obtain rfl:=aj H;exact⟨_,_,a2,rX A rfl⟩
end
noncomputable def RY:List Nat:=[147,149]
def qF(c:PC)(p:Nat):Prop:=(∃s,c.rows[p]?=some s/\aw RY s.ty=true)/\Eo c (p+1) 167
def ko(c:PC):Prop:=∀(p:Nat) (r:R),c.rows[p]?=some r->r.ty=120->qF c (p+1)\/(Eo c (p+1) 137/\qF c (p+2))
section
variable{r:R}
abbrev KN(c:PC)(o:List (Option R)):Prop:=(∀(p:Nat) (r:R),o[p]?=some (some r)->r.ty=120->∃a,c.rows[p]?=some a/\a.ty=120)/\∀(q:Nat) (r s:R),c.rows[q]?=some r->c.rows[q+1]?=some s->aw [120,137,147,149] r.ty=true->aw [137,147,149,167] s.ty=true->(∃x,o[q]?=some (some x))->∃S,o[q+1]?=some (some S)/\S.ty=s.ty
def qG(h:aw RY n=true):n=147\/n=149:=by
 have h:(match Nat.beq 147 n with|true=>true|false=>(match Nat.beq 149 n with|true=>true|false=>false))=true:=h;cases e:Nat.beq 147 n<;>rw[e]at h
 ·cases E:Nat.beq 149 n<;>rw[E]at h
  ·exact ft h
  ·exact .inr (lT E).symm
 ·exact .inl (lT e).symm
def KN.st(k:KN c o)(f:c.rows[q]?=some r)(g:aw [120,137,147,149] r.ty=true)(H:∃x,o[q]?=some (some x))(h:qF c (q+1)):qF (ay c o) (aK o q+1):=by
 refine I λi=>?_;obtain⟨⟨s,b,a⟩,z,j,d⟩:=h;obtain⟨x,H⟩:=H;obtain⟨S,a1,a2⟩:=k.2 q r s f b g (by obtain e|e:=qG a<;>refine rX e ?_<;>kernel_rfl) ⟨x,H⟩;obtain⟨l,b1,b2⟩:=k.2 _ s z b j (by obtain e|e:=qG a<;>refine rX e ?_<;>kernel_rfl) (by refine rX d ?_;kernel_rfl) ⟨S,a1⟩;refine i (⟨⟨_,pg a1 (aP H),by rw[aH];refine rX a2 ?_;exact a⟩,_,pg b1 ((aP a1).trans (rX (aP H) rfl)),by rw[aH,b2,d]⟩)
def KN.NM(k:KN c o)(h:ko c):ko (ay c o):=by
 intro P x i f;refine I λb=>?_;obtain⟨p,r,H,rfl,rfl⟩:=cU i;rw[aH]at f;obtain⟨d,a1,a2⟩:=k.1 p r H f;obtain g|⟨⟨s,e,a⟩,g⟩:=h p d a1 a2
 ·exact b (.inl (k.st a1 (by refine rX a2 ?_;kernel_rfl) ⟨_,H⟩ g))
 ·obtain⟨S,b1,b2⟩:=k.2 p d s a1 e (by refine rX a2 ?_;kernel_rfl) (by refine rX a ?_;kernel_rfl) ⟨_,H⟩;have:=k.st e (by refine rX a ?_;kernel_rfl) ⟨_,b1⟩ g;rw[(aP H)]at this;exact b (.inr ⟨⟨_,pg b1 (aP H),by rw[aH,b2,a]⟩,this⟩)
def NO(h:ko c)(d:Cl K E c)(o:Ok c)(e:oI E):ko (bK c):=by
 have j:∀{q n},Eo c q n->Eo (bK c) q n:=λ⟨r,H,f⟩=>⟨_,iO o H,(d.gQ o e H).trans f⟩;have u:∀{q},qF c q->qF (bK c) q:=λ⟨⟨s,H,f⟩,k⟩=>⟨⟨_,iO o H,rX (d.gQ o e H) f⟩,j k⟩;intro p x l g;obtain⟨r,i,rfl⟩:=l5 o l;have g:=(d.gQ o e i)▸g;exact(h p r i g).imp u λ⟨a,b⟩=>⟨j a,u b⟩
def BJ(sc:cW (V2 w) 0 c.rows o bd)(d:∀p r s x,c.rows[p]?=some r->c.rows[p+1]?=some s->w p r s=some x->(∀a,x.1=some a->a.ty=120->r.ty=120)/\(∀a,x.2=some a->a.ty≠120)/\aw [137,147,149,167] r.ty=false/\aw [137,147,149,167] s.ty=false):KN c o:=by
 refine⟨λp r H h=>?_,λq r s H h j i Z=>?_⟩
 ·cases gF sc (rX (sc.len).symm (cu H))with
  |keep a g G _ _ _=>obtain rfl:=aj (aj (ag H G));exact⟨_,g,h⟩
  |fst a s x g G b f _ _=>exact⟨_,g,(d _ _ _ _ g G b).1 r (aj (ag f H)) h⟩
  |snd P a s x e g G b f=>subst e;exact ak h ((d _ _ _ _ g G b).2.1 r (aj (ag f H)))
 ·cases gF sc (cu h)with
  |keep a g G _ _ _=>obtain rfl:=aj (ag h g);exact⟨_,G,rfl⟩
  |fst a S x g G b _ _ _=>obtain rfl:=aj (ag h g);exact tf (ag i (d _ _ _ _ g G b).2.2.1)
  |snd P a S x e g G b _=>
   obtain rfl:=bz e;obtain rfl:=aj (ag h G);exact tf (ag i (d _ _ _ _ g G b).2.2.2)
def ZH(h:cT (λa=>imp (dY m a) false) l=true)(H:aw m r.o.kd=true):aw l r.ty=false:=by
 cases e:aw l r.ty with
 |false=>rfl
 |true=>exact ft (bO (bC h e) (bR H))
def tD(h:cT (λa=>imp (dY m a) false) [137,147,149,167]=true)(H:aw m r.o.kd=true):aw [137,147,149,167] r.ty=false:=ZH h H
def NP(h:ko c)(sc:cW (V2 (dy c (marked c))) 0 c.rows o bd):ko (ay c o):=KN.NM (BJ sc λp r s x Z Z H=>by
 obtain⟨v,w⟩:=fK H;have d:=tD (m:=[0]) (by kernel_rfl) (rX w.r rfl);have n:∀{t g} {b:R},some (⟨.aM t,g⟩:R)=some b->b.ty≠120:=λe h=>by obtain rfl:=aj e;exact dN rfl h (by kernel_rfl)
 obtain⟨k,t,E,e⟩|⟨t,z,k,l,E,_,_,e⟩:=w.a<;>refine rX e ?_
 ·refine⟨λZ h=>nn h,λb h=>?_,d,tD (m:=[11]) (by kernel_rfl) (rX E rfl)⟩;cases f:v.truth==k<;>have h:=f▸h
  ·exact nn h
  ·exact n h
 ·exact⟨λZ h=>nn h,λb h=>n h,d,tD (m:=[10]) (by kernel_rfl) (rX E rfl)⟩) h
def NQ(h:ko c)(sc:cW (V2 (fy (marked c))) 0 c.rows o bd):ko (ay c o):=KN.NM (BJ sc λp r s x Z Z H=>by
 obtain⟨b,l,w⟩:=cJ H;exact rX w.a (⟨λe h d=>by obtain rfl:=aj h;exact ag (km ⟨_,_,w.br⟩) d,λZ h=>nn h,tD (m:=[11]) (by kernel_rfl) (rX w.br rfl),tD (m:=[10]) (by kernel_rfl) (rX w.s rfl)⟩)) h
def Et(h:ko c)(H:Cl K bL c)(d:cT (λa=>imp (dO a 167) (imp (dY [0,1,2,4,8] a) false)) K=true):ko (dE c):=by
 obtain⟨o,B,e,sc⟩:=c8 BQ;unfold dE;refine rX e ?_;refine KN.NM (BJ sc λp r s x b f g=>?_) h;have w:=dG g;refine rX w.a ?_;refine⟨λZ h=>nn h,λZ h=>nn h,?_,?_⟩
 ·have i:=w.r;exact tD (by kernel_rfl) i
 ·cases e:aw [137,147,149,167] s.ty with
  |false=>rfl
  |true=>
   have j:=lT (bO (bC (show cT (λa=>imp (dY [7] a) (Nat.beq a 167)) [137,147,149,167]=true by kernel_rfl) e) (bR (rX w.s rfl)));exact ft (bO (bO (bC d (H.ty _ _ b)) (j▸H.oH b f)) (bR w.r))
def NR(h:ko c):ko (cQ c):=by
 show ko (ay c (cc c bh));refine KN.NM ⟨λp r a H=>?_,λq r s a H i d Z=>?_⟩ h
 ·obtain⟨f,G,g⟩:=eB a;obtain⟨_,e⟩|⟨_,e⟩|⟨b,_,e⟩:=cf p f<;>rw[e]at g<;>cases g
  ·exact⟨_,G,H⟩
  ·exact dN rfl H (by kernel_rfl)
 ·obtain⟨_,e⟩|⟨e,_⟩|⟨b,e,_⟩:=cf (q+1) s
  ·exact⟨s,(bN H).trans (congrArg some e),rfl⟩
  ·exact tf (ag d (tD (m:=[10]) (by kernel_rfl) (rX e rfl)))
  ·exact tf (ag d (tD (m:=[11]) (by kernel_rfl) (rX e rfl)))
def NS(h:ko c):ko (cR c):=by
 show ko (ay c (cc c (ck c)));refine KN.NM ⟨λp r H b=>?_,λq r s H b d l ⟨x,f⟩=>?_⟩ h
 ·obtain⟨i,g,G⟩:=eB H;obtain⟨_,rfl⟩:=eW G;exact⟨_,g,b⟩
 ·obtain⟨i,g,G⟩:=eB f;obtain⟨j,rfl⟩:=eW G;obtain rfl:=aj (ag H g)
  have k:r.o.bZ=false:=by
   cases e:r.o.bZ with
   |false=>rfl
   |true=>exact ft (bO (bC (show cT (λa=>imp (dY [10,13,15] a) false) [120,137,147,149]=true by kernel_rfl) d) (bR e))
  exact⟨s,(bN b).trans (congrArg some (jM (j.eR H k))),rfl⟩
def ZI(h:ko c)(hw:Cl K6 bL (gb c)):ko (gb c):=by
 obtain⟨o,bd,e,sc⟩:=c8 Eh;have e:gb c=ay c o:=e;rw[e]at hw⊢
 have keep:∀{q:Nat} {s:R},c.rows[q]?=some s->dY [8,9] s.ty=false->o[q]?=some (some s):=λ{q s} h1 h2=>zP sc h1 (λs' x Z hx=>by
  have:dY [8,9] s.ty=true:=by
   obtain⟨e,_⟩|⟨e,_⟩:=(dH hx).a<;>exact bR (rX e rfl)
  exact tf (ag this h2)) λp' r' x hx=>by
  exact tf (ag (bR (rX (dH hx).s rfl)) h2)
 have st:∀{q n},qF c q->aK o q=n->qF (ay c o) n:=λ{q n} ⟨⟨s,h1,h2⟩,z,h3,h4⟩ hn=>by
  have k1:=keep h1 (by obtain e|e:=qG h2<;>refine rX e ?_<;>kernel_rfl);have k2:=keep h3 (by refine rX h4 ?_;kernel_rfl);exact⟨⟨_,pg k1 hn,by rw[aH];exact h2⟩,_,pg k2 ((aP k1).trans (rX hn rfl)),by rw[aH];exact h4⟩
 intro P x hx ht;obtain⟨p,r,hp,rfl,rfl⟩:=cU hx;rw[aH]at ht
 have h0:c.rows[p]?=some r:=by
  cases gF sc (rX (sc.len).symm (cu hp))with
  |keep r' g1 g2 _ _ _=>obtain rfl:=aj (aj (ag hp g2));exact g1
  |fst r' s x g1 g2 g3 g4 _ _=>
   obtain⟨_,e⟩|⟨_,e⟩:=(dH g3).a<;>rw[e]at g4
   ·exact nn (aj (ag g4 hp))
   ·obtain rfl:=aj (aj (ag hp g4));exact g1
  |snd p' r' s x e g1 g2 g3 g4=>
   subst e;obtain⟨_,e⟩|⟨_,e⟩:=(dH g3).a<;>rw[e]at g4<;>exact nn (aj (ag g4 hp))
 obtain g|⟨⟨s,h1,h2⟩,g⟩:=h p r h0 ht
 ·exact .inl (st g (aP hp))
 ·have hn:o[p+1]?=some none:=by
   cases e:o[p+1]? with
   |none=>
    have:=List.getElem?_eq_none_iff.1 e;rw[sc.len]at this;exact ak (cu h1) (Nat.not_lt.2 this)
   |some x=>cases x with
    |none=>rfl
    |some r'=>
     have:=hw.ty _ _ (pg e rfl);rw[aH]at this
     have e2:r'.ty=137:=by
      cases gF sc (cu h1)with
      |keep r'' g1 g2 _ _ _=>obtain rfl:=aj (aj (ag e g2));obtain rfl:=aj (ag h1 g1);exact h2
      |fst r'' s' x g1 g2 g3 g4 _ _=>
       obtain rfl:=aj (ag h1 g1);obtain⟨_,e'⟩|⟨e'',e'⟩:=(dH g3).a<;>rw[e']at g4
       ·exact nn (aj (ag g4 e))
       ·exact dN (rX e'' rfl) h2 (by kernel_rfl)
      |snd p' r'' s' x e0 g1 g2 g3 g4=>
       obtain rfl:=bz e0;obtain⟨_,e'⟩|⟨_,e'⟩:=(dH g3).a<;>rw[e']at g4<;>exact nn (aj (ag g4 e))
     rw[e2]at this;exact ft (ag (show aw K6 137=false by kernel_rfl) this)
  exact .inl (st g ((cG hn).trans (aP hp)))
def qF.dC(h:qF c (p+1))(H:Cl K bL c)(i:c.rows[p]?=some r)(g:r.ty=120):∃s z,c.rows[p+1]?=some s/\c.rows[p+2]?=some z/\jl (marked c) p r s z=true:=by
 refine I λk=>?_;obtain⟨⟨s,a,b⟩,z,d,f⟩:=h;refine k (⟨s,z,a,d,?_⟩);have a1:r.o.fB=true:=nc (by refine rX g ?_;kernel_rfl);have a2:s.o.d9=true:=nc (by obtain e|e:=qG b<;>refine rX e ?_<;>kernel_rfl);have A:z.o.gn=true:=nc (by refine rX f ?_;kernel_rfl);unfold jl;refine rX a1 (rX a2 (rX A (rX (El H a (by obtain e|e:=qG b<;>refine rX e ?_<;>kernel_rfl)) (rX (El H d (by refine rX f ?_;kernel_rfl)) ?_))));rfl
def ZJ(h:ko c)(hc:Cl K bL c):ko (dU c):=by
 obtain⟨o,bd,e,sc⟩:=gw c;refine rX e ?_;intro P x hx ht;obtain⟨p,r,hp,rfl,rfl⟩:=cU hx;rw[aH]at ht;have h0:=NI sc hp;obtain g|⟨⟨s,h1,h2⟩,g⟩:=h p r h0 ht
 ·obtain⟨s,z,g1,g2,g3⟩:=g.dC hc h0 ht;cases t7 sc (cu h0)with
  |keep r' a1 _ a2=>obtain rfl:=aj (ag h0 a1);exact ft (ag (a2 _ _ g1 g2) g3)
  |dC p' i r' s z e hi a1 a2 a3 hf b1 b2 b3=>
   subst e;have f2:=(cM hf).2.1;have:=p_ hi;obtain rfl|rfl|rfl:=this
   ·exact nn (aj (ag b1 hp))
   ·obtain rfl:=aj (ag h0 a2);exact(pz f2).elim (λe=>dN e ht (by kernel_rfl)) λe=>dN e ht (by kernel_rfl)
   ·exact nn (aj (ag b3 hp))
 ·obtain⟨⟨s2,g1,g2⟩,z,g3,g4⟩:=g
  have keep:∀{q:Nat} {x:R},c.rows[q]?=some x->p<q->q<=p+3->dY [8] x.ty=false->o[q]?=some (some x):=λ{q x} k1 k2 k3 k4=>by
   cases t7 sc (cu k1)with
   |keep r' a1 a2 _=>obtain rfl:=aj (ag k1 a1);exact a2
   |dC p' i r' s' z' e hi a1 a2 a3 hf b1 b2 b3=>
    exfalso;have f1:=(cM hf).1;have f2:=(cM hf).2.1;have nd:∀{x:R} {n},x.o=.dup->x.ty=n->Nat.beq 8 (n%16)=false->False:=λe h hn=>dN (rX e rfl) h hn;obtain rfl|rfl|rfl|rfl|e2:=(tr3 (e▸k2) (e▸k3) hi)
    ·obtain rfl:=aj (ag h1 a2);exact(pz f2).elim (λe=>dN e h2 (by kernel_rfl)) λe=>dN e h2 (by kernel_rfl)
    ·obtain rfl:=aj (ag h1 a1);exact nd f1 h2 (by kernel_rfl)
    ·obtain rfl:=aj (ag g1 a1);obtain e|e:=qG g2
     ·exact nd f1 e (by kernel_rfl)
     ·exact nd f1 e (by kernel_rfl)
    ·obtain rfl:=aj (ag g3 a1);exact nd f1 g4 (by kernel_rfl)
    ·subst e2;obtain rfl:=aj (ag h0 a2);exact(pz f2).elim (λe=>dN e ht (by kernel_rfl)) λe=>dN e ht (by kernel_rfl)
  have k1:=keep h1 (Nat.lt_add_one p) (bU (Nat.succ_pos _)) (by refine rX h2 ?_;kernel_rfl);have k2:=keep g1 (aE _) (aE (p+2)) (by obtain e|e:=qG g2<;>refine rX e ?_<;>kernel_rfl);have k3:=keep g3 (bU (Nat.succ_pos _)) (Nat.le_refl (p+2+1)) (by refine rX g4 ?_;kernel_rfl);have p2:=(aP k1).trans (rX (aP hp) rfl);exact .inr ⟨⟨_,pg k1 (aP hp),by rw[aH];exact h2⟩,⟨_,pg k2 p2,by rw[aH];exact g2⟩,_,pg k3 ((aP k2).trans (rX p2 rfl)),by rw[aH];exact g4⟩
end
section
variable{c:PC}{r:R}
def oJ(h:r.o.bo=some t):r.cC t=r:=by obtain⟨x,g⟩:=r;cases x<;>first|exact nn h|(obtain rfl:=aj h;rfl)
def jO(l:List R)(p:Nat):(l.map some)[p]?=(l[p]?).map some:=hW ..
def ly(l:List R)(h:p<=l.length):aK (l.map some) p=p:=rF (λq H=>by have H:=cX▸H;exact⟨l[q],by rw[jO];refine rX (dv H) ?_;rfl⟩) p (rX cX h)
def Eu{f:α->Option α}:∀{l:List α},(∀k∈l,f k=some k)->l.filterMap f=l:=by
 intro m;induction m with
 |nil=>exact λZ=>rfl
 |cons k l i=>exact λh=>rX filterMap_cons (rX (h k eE) (congrArg _ (i λx H=>h x (fg H))))
def iX(d:Ok c):ay c (c.rows.map some)=c:=by
 have j:((c.rows.map some).filterMap id).map (cA (c.rows.map some))=c.rows:=by
  refine rX filterMap_map (rX (show(id∘some:R->Option R)=some from rfl) (rX filterMap_some ?_));refine(map_congr_left λr H=>?_).trans (map_id _);cases h:r.o.bo with
  |none=>show R.mk (r.o.cC _) r.g=r;rw[t4 h]
  |some t=>
   unfold cA;refine rX h ?_;exact rX (ly _ (a_ (d.t r H t h))) (rX (oJ h) rfl)
 have l:c.ax.filterMap (d8 (c.rows.map some))=c.ax:=by
  refine Eu λk f=>?_;obtain⟨a,b,e⟩:=d.k k f;unfold d8;exact rX (ly _ b) (rX (ly _ (bt (a_ a) b)) (rX (ly _ (Nat.le_of_succ_le e)) (rX (aO a) rfl)))
 unfold ay;exact rX j (rX l (rX ((map_congr_left λs i=>ly _ (a_ (d.s s i))).trans (map_id _)) rfl))
def cW.le(h:cW V p l o B)(b:∀p a l o',V p a l o'->c.rows.drop p=a++l->(dI o').countP f<=(dq a).countP f):c.rows.drop p=l->(dI o).countP f<=(dq l).countP f:=by
 induction h with
 |nil p=>intro _;exact di
 |cons p a l o l' B d n L e i=>
  intro H;rw[kX,mD];refine rX countP_append ?_;refine rX countP_append ?_;exact Nat.add_le_add (b _ _ _ _ d H) (i (rX (drop_drop).symm (rX H (rX (gd rfl) rfl))))
def Ew(a:List R):dI (a.map some)=dq a:=by unfold dI;exact rX filterMap_map (rX (show(id∘some:R->Option R)=some from rfl) (rX filterMap_some rfl))
def cW.same(h:cW V p l o B)(d:∀p a l o',V p a l o'->c.rows.drop p=a++l->o'=a.map some\/(dI o').countP f<(dq a).countP f):c.rows.drop p=l->(dI o).countP f<=(dq l).countP f/\((dq l).countP f<=(dI o).countP f->o=l.map some):=by
 induction h with
 |nil p=>intro _;exact⟨di,λZ=>rfl⟩
 |cons p a l o l' B j n L m k=>
  intro b;obtain⟨i,g⟩:=k (rX (drop_drop).symm (rX b (rX (gd rfl) rfl)));rw[kX,mD];refine rX countP_append ?_;refine rX countP_append ?_;obtain e|H:=d _ _ _ _ j b
  ·subst e;rw[Ew];exact⟨bg i _,λh=>rX fD (rX (g (Nat.le_of_add_le_add_left h)) rfl)⟩
  ·exact⟨gf 0x7512861187065010 rfl i H,λh=>gY (gf 0x5706801187126511011110 rfl i H h)⟩
def cn(f:Nat->Bool)(c:PC):Nat:=(dq c.rows).countP f
def gG(c:PC)(o:List (Option R)):cn f (ay c o)=(dI o).countP f:=by
 have:dq (ay c o).rows=dI o:=by
  show((o.filterMap id).map (cA o)).map R.ty=_;exact rX map_map (map_congr_left λr Z=>aH o r)
 unfold cn;exact rX this rfl
def td(f:Nat->Bool)(c:PC)(w:W2):Prop:=∀p r s x,c.rows[p]?=some r->c.rows[p+1]?=some s->w p r s=some x->(dI [x.1,x.2]).countP f<(dq [r,s]).countP f
def Le2(f:Nat->Bool)(c:PC)(w:W2):Prop:=∀p r s x,c.rows[p]?=some r->c.rows[p+1]?=some s->w p r s=some x->(dI [x.1,x.2]).countP f<=(dq [r,s]).countP f
def uP(b:∀p r s a x,w p r s=some a->a.2=some x->∀q y,w q x y=none)(h:Le2 f c w):cn f (h6 w c)<=cn f c:=by
 obtain⟨o,B,e,sc⟩:=c8 b;refine rX e ?_;rw[gG]
 exact sc.le (λp a l o' d H=>by
  cases d with
  |keep r l=>exact di
  |dC r s l x g=>exact h _ _ _ _ (dg H).1 (dg (dg H).2).1 g) rfl
def Ex(b:Ok c)(d:∀p r s a x,w p r s=some a->a.2=some x->∀q y,w q x y=none)(h:td f c w):cn f (h6 w c)<=cn f c/\(cn f c<=cn f (h6 w c)->h6 w c=c):=by
 refine I λk=>?_;obtain⟨o,B,e,sc⟩:=c8 d;refine k (rX e ?_);rw[gG]
 have:=sc.same (λp a l o' g H=>by
  cases g with
  |keep r l=>exact .inl rfl
  |dC r s l x i=>exact .inr (h _ _ _ _ (dg H).1 (dg (dg H).2).1 i)) rfl
 exact⟨this.1,λh=>rX (this.2 h) (iX b)⟩
def Ey(b:Ok c)(H:∀p r s a x,w p r s=some a->a.2=some x->∀q y,w q x y=none)(h:∀p r s x,c.rows[p]?=some r->c.rows[p+1]?=some s->w p r s=some x->False):h6 w c=c:=
 (Ex (f:=λZ=>true) b H λp r s x g i j=>(h p r s x g i j).elim).2 (by
  obtain⟨o,B,e,sc⟩:=c8 H
  have:=sc.same (f:=λZ=>false) (λp a l o' k d=>by
   cases k with
   |keep r l=>exact .inl rfl
   |dC r s l x m=>exact(h _ _ _ _ (dg d).1 (dg (dg d).2).1 m).elim) rfl
  exact rX e (rX (this.2 (rX countP_false aZ)) (rX (iX b) di)))
def Sbd(o:Option R)(r:R):Prop:=o=none\/o=some r
def GN{x:Option R×Option R}(h:Sbd x.1 r)(H:Sbd x.2 s):(dI [x.1,x.2]).countP f<=(dq [r,s]).countP f:=by
 obtain⟨a,b⟩:=x;obtain h|h:=h<;>obtain H|H:=H<;>subst h<;>subst H
 ·exact aZ
 ·exact(sublist_cons_self r.ty [s.ty]).countP_le
 ·exact(sublist_append_left [r.ty] [s.ty]).countP_le
 ·exact di
end
noncomputable def jv:List Nat:=[235,267,266,346,363]
noncomputable def ir:List Nat:=[235,266,346,363,330]
def abe(h:Cl K E c)(o:Ok c)(a:oI E):dq (bK c).rows=dq c.rows:=by
 apply ext_getElem?;intro p;unfold dq;refine rX hW ?_;rw[hW];cases H:c.rows[p]? with
 |some r=>exact rX (iO o H) (congrArg some (h.gQ o a H))
 |none=>
  cases d:(bK c).rows[p]? with
  |none=>rfl
  |some x=>obtain⟨r,b,_⟩:=l5 o d;exact nn (ag H b)
def GO(h:Cl K E c)(o:Ok c)(H:oI E):cn f (bK c)=cn f c:=by unfold cn;exact rX (abe h o H) rfl
def IA(h:x=(none,none)):(dI [x.1,x.2]).countP f<=(dq [r,s]).countP f:=by subst h;exact aZ
def GQ:cn f (dE c)<=cn f c:=uP BQ λp r s x Z Z h=>IA (dG h).a
def NT:cn f (gb c)<=cn f c:=uP Eh λp r s x Z Z h=>by
 obtain⟨_,e⟩|⟨_,e⟩:=(dH h).a<;>refine rX e ?_
 ·exact aZ
 ·exact GN (.inr rfl) (.inl rfl)
def GR:cn f (cI c)<=cn f c:=uP Ei λp r s x Z Z h=>by
 obtain⟨b,l,w⟩:=cJ h;refine rX w.a ?_;have:dI [some (⟨.br (!b) l,r.g⟩:R),none]=dI [some r,none]:=congrArg (λn=>[n]) (km ⟨_,_,w.br⟩);exact rX this (GN (x:=(some r,none)) (.inr rfl) (.inl rfl))
def GU:cn f (dU c)<=cn f c:=by
 obtain⟨o,b,e,sc⟩:=gw c;refine rX e ?_;rw[gG]
 exact sc.le (λp a l o' h H=>by
  cases h with
  |keep r l=>exact di
  |dC r s z l d=>exact((sublist_cons_self z.ty []).cons_cons s.ty|>.cons r.ty:List.Sublist [s.ty] [r.ty,s.ty,z.ty]).countP_le) rfl
def one_le(h:∀p r x,c.rows[p]?=some r->g p r=some x->f x.ty=true->f r.ty=true):cn f (ay c (cc c g))<=cn f c:=by
 obtain⟨B,sc⟩:=BO g c.rows 0;rw[gG]
 exact sc.le (λp a l o' H b=>by
  cases H with
  |mk r l=>
   cases e:g p r with
   |none=>exact aZ
   |some x=>
    refine rX countP_singleton (rX countP_singleton ?_);have:=h p r x (dg b).1 e;cases E:f x.ty
    ·exact aZ
    ·exact rX (this E) di) rfl
def B5:cn f (cR c)<=cn f c:=one_le (g:=ck c) λp r x Z h H=>by obtain⟨_,rfl⟩:=eW h;exact H
def zQ(h:cT (λa=>imp (dY [7] a) false) L=true):aw L (⟨.pop,g⟩:R).ty=false:=by
 cases e:aw L (⟨.pop,g⟩:R).ty with
 |false=>rfl
 |true=>exact ft (bO (bC h e) (bR rfl))
def NU(h:cT (λa=>imp (dY [7] a) false) L=true):cn (aw L) (cQ c)<=cn (aw L) c:=one_le λp r x Z H d=>by
 obtain⟨_,e⟩|⟨_,e⟩|⟨b,_,e⟩:=cf p r<;>rw[e]at H<;>cases H
 ·exact d
 ·exact ft (ag (zQ h) d)
def gW(c:PC)(o:List (Option R)):(ay c o).ax.length<=c.ax.length:=length_filterMap_le _ _
def wz:∀{l:List Ct},(l.filterMap (d8 o)).length=l.length->∀k∈l,aK o k.first<aK o k.last:=by
 intro m;induction m with
 |nil=>exact λZ Z h=>ak h d6
 |cons k l i=>
  intro h x H;rw[filterMap_cons]at h;have:=length_filterMap_le (d8 o) l;cases e:d8 o k with
  |none=>rw[e]at h;have h:(l.filterMap (d8 o)).length=l.length+1:=h;lia
  |some b=>
   rw[e]at h;obtain rfl|H:=hH H
   ·unfold d8 at e;by_cases a:aK o x.first<aK o x.last
    ·exact a
    ·rw[bc a]at e;exact nn e
   ·exact i (bz h) x H
def wA(h:k∈c.ax)(H:aK o k.first<aK o k.last):iA o k∈(ay c o).ax:=mem_filterMap.2 ⟨k,h,aO H⟩
def NW(o:Ok c)(h:∀p,p<c.rows.length->Reach c p):cR c=c:=by
 show ay c (cc c (ck c))=c
 have:cc c (ck c)=c.rows.map some:=by
  apply ext_getElem?;intro p;rw[jO];cases H:c.rows[p]? with
  |none=>exact List.getElem?_eq_none (rX cO (List.getElem?_eq_none_iff.1 H))
  |some r=>exact rX (bN H) (rX (jM (h p (cu H))) rfl)
 exact rX this (rX (iX o) rfl)
def RZ(o:Ok c)(h:∀(p:Nat) (r:R),c.rows[p]?=some r->bh p r=some r):cQ c=c:=by
 show ay c (cc c bh)=c
 have:cc c bh=c.rows.map some:=by
  apply ext_getElem?;intro p;rw[jO];cases H:c.rows[p]? with
  |none=>exact List.getElem?_eq_none (rX cO (List.getElem?_eq_none_iff.1 H))
  |some r=>exact rX (bN H) (rX (h p r H) rfl)
 exact rX this (rX (iX o) rfl)
def zR(o:Ok c)(h:∀(p:Nat) (r:R),c.rows[p]?=some r->bF c r=r):bK c=c:=by
 refine rX (show bK c=ay c (cc c λZ r=>some (bF c r)) from congrArg (ay c) (iS c.rows λr=>some (bF c r))) ?_
 have:(cc c λZ r=>some (bF c r))=c.rows.map some:=by
  apply ext_getElem?;intro p;rw[jO];cases H:c.rows[p]? with
  |none=>exact List.getElem?_eq_none (rX cO (List.getElem?_eq_none_iff.1 H))
  |some r=>exact rX (bN H) (rX (h p r H) rfl)
 exact rX this (rX (iX o) rfl)
def R0(o:Ok c)(h:Cl K E c)(d:oI E)(j:lR c):bK c=c:=zR o λp r H=>by
 obtain⟨_,e⟩|⟨t,a,e⟩:=h.oF o d H<;>rw[e];have b:=o.t r (gh H) t a;exact rX (kb (dv b) (j p r t _ H a (dv b))) (rX (oJ a) rfl)
def R3(b:Ok c)(h:∀(p:Nat) (r:R),c.rows[p]?=some r->r.o.fB=false):dU c=c:=by
 obtain⟨o,B,e,sc⟩:=gw c
 have:=sc.same (f:=λZ=>false) (λp a l o' H d=>by
  cases H with
  |keep r l=>exact .inl rfl
  |dC r s z l g=>
   have:=h p r (dg d).1;rw[(cM g).1]at this;exact tf this) rfl
 exact rX e (rX (this.2 (rX countP_false aZ)) (rX (iX b) rfl))
def R4(h:Reach c p)(l:Ok c):Reach (cR c) (aK (cc c (ck c)) p):=by
 induction h with
 |start h=>exact .start (mem_map_of_mem h)
 | @step q p n H i=>
  obtain⟨r,m,b⟩:=rA l n;have g:=bT (c:=c) b;unfold eJ at H;rw[m]at H;obtain H|H:=iZ H
  ·obtain H|H:=iZ H
   ·have j:=Option.mem_toList.1 H;exact i.bo g (by show(r.o.cC _).bo=_;exact rX (dm j) (rX j rfl))
   ·cases e:r.o.bZ<;>have H:=e▸H
    ·obtain rfl:=d5 H;exact rX (aP b) (i.eR g ((fe _ r).2.trans e))
    ·exact ak H d6
  ·obtain⟨k,d,rfl⟩:=i4 H;obtain⟨d,f⟩:=mem_filter.1 d;have a:=(oE b k).1 f;refine i.hand g (k:=iA _ k) (wA d (iC a.1 a.2)) ?_;unfold Ct.on iA;exact rX (bA a.1) (rX (bA a.2) rfl)
def wB(o:Ok c):∀q,q<(cR c).rows.length->Reach (cR c) q:=λq h=>by
 have h:q<(ay c (cc c (ck c))).rows.length:=h;rw[fk]at h;obtain⟨p,r,H,rfl⟩:=sX h;obtain⟨b,_,a⟩:=eB H;exact R4 (eW a).1 o
def D_w(h:cn f c<=cn f (cR c)):∀(p:Nat) (r:R),c.rows[p]?=some r->f r.ty=true->Reach c p:=by
 have d:∀(l:List R) (p:Nat),(dI ((l.zipIdx p).map λx=>ck c x.2 x.1)).countP f<=(dq l).countP f/\((dq l).countP f<=(dI ((l.zipIdx p).map λx=>ck c x.2 x.1)).countP f->∀i r,l[i]?=some r->f r.ty=true->Reach c (p+i)):=by
  intro l;induction l with
  |nil=>intro p;exact⟨di,λZ i r h=>nn h⟩
  |cons x l s=>
   intro p;obtain⟨b,g⟩:=s (p+1);show(dI (ck c p x::(l.zipIdx (p+1)).map λx=>ck c x.2 x.1)).countP f<=(x.ty::dq l).countP f/\((x.ty::dq l).countP f<=(dI (ck c p x::(l.zipIdx (p+1)).map λx=>ck c x.2 x.1)).countP f->_);refine rX countP_cons ?_;cases e:ck c p x with
   |none=>
    refine⟨cb b,λh i r a H=>?_⟩;cases i with
    |zero=>obtain rfl:=aj a;rw[aO H]at h;exact gY (ln2 0x51160116511011110 rfl b h)
    |succ i=>exact rX (show p+(i+1)=p+1+i by exact ln2 0x61150011605012 rfl) (g (Nat.le_of_add_right_le h) i r a H)
   |some y=>
    obtain⟨j,rfl⟩:=eW e;refine rX countP_cons ?_;refine⟨aS b (if f x.ty=true then 1 else 0),λh i r a H=>?_⟩;cases i with
    |zero=>exact j
    |succ i=>exact rX (show p+(i+1)=p+1+i by exact ln2 0x61150011605012 rfl) (g ((λ{m k n}=>Nat.add_le_add_iff_right.mp) h) i r a H)
 intro p r o H;have h:cn f c<=cn f (ay c (cc c (ck c))):=h;rw[gG]at h;have:=(d c.rows 0).2 h p r o H;rwa[aD]at this
def qH(c:PC)(p:Nat):Prop:=marked c p=true\/∃q r,p=q+1/\c.rows[q]?=some r/\r.o.bZ=false
def NX(c:PC)(s:Nat):Prop:=∀x∈c.starts,x=0\/x=s
section
def wC(b:Ok c)(h:Reach c p):qH c p:=by
 cases h with
 |start h=>exact .inl (fX h)
 | @step q p d H=>
  have a:c.rows[q]?=some (c.rows[q]'(d.lt b)):=dv _;unfold eJ at H;rw[a]at H;obtain H|H:=iZ H
  ·obtain H|H:=iZ H
   ·exact .inl (dn a (Option.mem_toList.1 H))
   ·cases e:(c.rows[q]'(d.lt b)).o.bZ<;>have H:=e▸H
    ·exact .inr ⟨q,_,d5 H,a,e⟩
    ·exact ak H d6
  ·obtain⟨k,f,e⟩:=i4 H;exact .inl (e▸fW (mem_filter.1 f).1)
def Ez(h:NX c s0):NX (ay c o) (aK o s0):=λx H=>by
 obtain⟨y,a,rfl⟩:=i4 H;obtain rfl|rfl:=h y a
 ·exact .inl (sV o)
 ·exact .inr rfl
def ZK(j:lR c)(o:Ok c):lR (ay c (cc c bh)):=by
 intro P x T s l m H;obtain⟨p,r,i,rfl,rfl⟩:=cU l;obtain⟨t,a,rfl⟩:=fY m;obtain⟨d,g,G⟩:=eB i
 have e:d=r:=by
  obtain⟨_,e⟩|⟨_,e⟩|⟨b,_,e⟩:=cf p d<;>rw[e]at G<;>cases G
  ·rfl
  ·exact nn a
 subst e;have k:=o.t d (gh g) t a;have f:=dv k;have h:=j _ _ _ _ g a f;obtain⟨_,e⟩|⟨E,_⟩|⟨b,_,e⟩:=cf t c.rows[t]
 ·rw[bT ((bN f).trans (congrArg some e))]at H;obtain rfl:=aj H;exact rX (jN (aH _ _)) (h)
 ·have h:=E▸h;exact tf h
 ·rw[bT ((bN f).trans (congrArg some e))]at H;obtain rfl:=aj H;rfl
abbrev oS(c:PC):List (Option R):=cc c bh
abbrev cS(c:PC):PC:=ay c (oS c)
def fC(c:PC)(x:Nat):Nat:=(dI ((cc (cS c) (ck (cS c))).drop (aK (oS c) x))).countP (aw ir)
def wD(c:PC)(x:Nat):Nat:=(dq (c.rows.drop x)).countP (aw jv)
abbrev LH(c:PC)(s:Nat):Prop:=Cl K7 bL c/\Cl K8 bL (cS c)/\Ok c/\Ok (cS c)/\Zu c/\lR c/\NX c s
def wF(h:c.rows[p]?=some r):wD c p=wD c (p+1)+if aw jv r.ty=true then 1 else 0:=by
 unfold wD;exact rX (drop_cons h) (countP_cons)
def oK(h:(oS c)[p]?=some none):fC c p=fC c (p+1):=by unfold fC;exact rX (cG h) rfl
open Classical in
def t8(h:(oS c)[p]?=some (some r)):fC c p=fC c (p+1)+(if Reach (cS c) (aK (oS c) p)/\aw ir r.ty=true then 1 else 0):=by
 unfold fC;have a:=bT (c:=c) h;have b:=bN (c:=cS c) (f:=ck (cS c)) a;obtain⟨a1,a2⟩:=List.getElem?_eq_some_iff.1 b
 have e:(cc (cS c) (ck (cS c))).drop (aK (oS c) p)=ck (cS c) (aK (oS c) p) (cA (oS c) r)::(cc (cS c) (ck (cS c))).drop (aK (oS c) p+1):=by
  rw[<-a2];exact(getElem_cons_drop a1).symm
 rw[e,aP h];by_cases H:Reach (cS c) (aK (oS c) p)
 ·rw[jM H];show List.countP _ ((cA (oS c) r).ty::_)=_;rw[countP_cons,aH];refine congrArg _ ?_;cases aw ir r.ty
  ·rw[bc (λh=>nomatch h),bc λh=>nomatch h.2]
  ·rw[aO rfl,aO ⟨H,rfl⟩]
 ·have E:ck (cS c) (aK (oS c) p) (cA (oS c) r)=none:=by
   cases e:ck (cS c) (aK (oS c) p) (cA (oS c) r)with
   |none=>rfl
   |some s=>exact ak (eW e).1 H
  rw[E,bc λh=>H h.1];rfl
def te(H:c.rows[p]?=some r):fC c p<=fC c (p+1)+1/\(r.ty≠330->fC c p<=fC c (p+1)+if aw jv r.ty=true then 1 else 0):=by
 refine I λd=>?_
 have k:∀x,(oS c)[p]?=some (some x)->x.ty=r.ty\/aw ir x.ty=false->fC c p<=fC c (p+1)+1/\(r.ty≠330->fC c p<=fC c (p+1)+if aw jv r.ty=true then 1 else 0):=λx f g=>by
  refine rX (t8 f) ?_;refine⟨?_,λi=>?_⟩
  ·split<;>lia
  ·split
   ·rename_i h;obtain e|e:=g
    ·have:aw jv r.ty=true:=by
      have j:=bO (bC (show cT (λa=>imp (match Nat.beq a 330 with|true=>false|false=>true) (aw jv a)) ir=true by kernel_rfl) (e▸h.2)) (rX (zM i) rfl);exact j
     exact rX (aO this) di
    ·exact tf (ag h.2 e)
   ·exact ar (fC c (p+1)+0) (if aw jv r.ty=true then 1 else 0)
 obtain⟨_,e⟩|⟨_,e⟩|⟨b,_,e⟩:=cf p r
 ·exact d (k r ((bN H).trans (congrArg some e)) (.inl rfl))
 ·exact d (rX (oK ((bN H).trans (congrArg some e))) (⟨aE _,λZ=>ar _ _⟩))
 ·exact d (k _ ((bN H).trans (congrArg some e)) (.inr (zQ (by kernel_rfl))))
def LH.next(k:LH c s0)(y:c.rows[p]?=some r)(f:r.ty=330)(i:(oS c)[p]?=some (some r))(z:c.rows[p+1]?=some s)(m:s.o.isJ=true)(j:(oS c)[p+1]?=some (some s))(n:Reach (cS c) (aK (oS c) (p+1))):p+1=s0:=by
 refine I λt=>?_;have p1:=aP i;have g:=bT (c:=c) j;have G:(cA (oS c) s).o.isJ=true:=(jN (aH _ s)).trans m;obtain H|⟨q,x,e,a,l⟩:=wC k.2.2.2.1 n
 case inr=>
  rw[p1]at e;obtain rfl:=bz e;rw[bT i]at a;obtain rfl:=aj a;have E:dY [10] r.ty=true:=by refine rX f ?_;kernel_rfl
  obtain⟨u,b⟩:=rE (wx f);rw[(fe _ r).2,b]at l;exact tf l
 obtain H|H:=pF H
 ·obtain H|H:=pF H
  ·obtain⟨x,a,e⟩:=any_eq_true.1 H;obtain⟨P,v⟩:=mem_iff_getElem?.1 a;have:=ZK k.2.2.2.2.2.1 k.2.2.1 P x _ _ v (beq_iff_eq.1 e) g;exact tf (ag G this)
  ·obtain⟨x,a,e⟩:=any_eq_true.1 H;have:=k.2.1.ca x a _ (beq_iff_eq.1 e▸g);exact dN (by obtain⟨u,b,_⟩:=lQ g G;exact rX b rfl) this (by kernel_rfl)
 ·obtain⟨x,a,e⟩:=any_eq_true.1 H;obtain⟨x0,d,rfl⟩:=i4 a;obtain rfl|rfl:=k.2.2.2.2.2.2 x0 d
  ·rw[p1]at e;exact nomatch e
  ·obtain h|h|h:=Nat.lt_trichotomy x0 (p+1)
   ·have:aK (oS c) x0<=aK (oS c) p:=eT (Nat.le_of_lt_succ h);lia
   ·exact t (h.symm)
   ·have w:aK (oS c) (p+1+1)<=aK (oS c) x0:=eT (Nat.succ_le_of_lt h);rw[aP j]at w;lia
def LH.cnt(k:LH c s0):∀n p,c.rows.length<=p+n->fC c p<=wD c p+if p<=s0 then 1 else 0:=by
 intro n;induction n using Nat.strongRecOn with
 |ind n t=>
  intro p o;cases f:c.rows[p]? with
  |none=>
   have i:aK (oS c) p=aK (oS c) (oS c).length:=by
    unfold aK;exact rX (take_of_length_le (rX cO (List.getElem?_eq_none_iff.1 f))) (rX take_length rfl)
   have v:(cc (cS c) (ck (cS c))).length<=aK (oS c) p:=by
    refine rX cO ?_;refine rX fk ?_;refine rX i ?_;rw[kT];exact di
   unfold fC;exact rX (drop_eq_nil_of_le v) aZ
  |some r=>
   cases n with
   |zero=>exact ak (cu f) (Nat.not_lt.2 o)
   |succ n=>
    by_cases j:r.ty=330
    case neg=>
     have i:=(te f).2 j;refine rX (wF f) ?_;have:=zim (s:=s0) (aE p);exact G0 0x8a11a6091179051187600510 rfl i (t n (ba n) (p+1) (bX 0x117060511711600510 rfl o)) this
    obtain⟨s,g,m⟩:=k.2.2.2.2.1 p r f j
    have w:aw jv s.ty=true:=by
     have i:=GJ (k.1.oH f g) (by refine rX j ?_;kernel_rfl);exact bO (bC (show cT (λa=>imp (dY [10] a) (aw jv a)) c3=true by kernel_rfl) i) (rD m)
    refine rX (wF f) (rX (wF g) (rX (aO w) ?_))
    have H:fC c (p+2)<=wD c (p+2)+if p+2<=s0 then 1 else 0:=by
     cases n with
     |zero=>exact ak (cu g) ((λ{a b}=>Nat.not_lt.mpr) o)
     |succ n=>exact t n (aE _) (p+2) (bX 0x111170060511721600510 rfl o)
    have d:=zim (s:=s0) (ar p 2);have a1:=te f;have a2:=(te g).1
    have b1:fC c p=fC c (p+1)\/fC c (p+1)=fC c (p+2)\/((if p<=s0 then 1 else 0)=1/\(if p+2<=s0 then 1 else 0)=0):=by
     refine I λl=>?_;obtain⟨_,e⟩|⟨_,e⟩|⟨b,e,_⟩:=cf p r
     case inr.inl=>exact l (.inl (oK ((bN f).trans (congrArg some e))))
     case inr.inr=>exact dN (rX e rfl) j (by kernel_rfl)
     obtain⟨_,E⟩|⟨_,E⟩|⟨b,E,_⟩:=cf (p+1) s
     case inr.inl=>exact l (.inr (.inl (oK ((bN g).trans (congrArg some E)))))
     case inr.inr=>rw[E]at m;exact ft m
     by_cases u:Reach (cS c) (aK (oS c) (p+1))
     ·have:=k.next f j ((bN f).trans (congrArg some e)) g m ((bN g).trans (congrArg some E)) u;exact l (.inr (.inr ⟨aO (Nat.le.intro this),bc (λY=>gY (ln2 0x62150116115014011110 rfl this Y))⟩))
     ·exact l (.inr (.inl ((t8 ((bN g).trans (congrArg some E))).trans (rX (bc λh=>u h.1) rfl))))
    refine rX (show p+1+1=p+2 from rfl) ?_;obtain b|b|⟨b,b2⟩:=b1
    ·exact G1 0x8b11b60a1111a0911951387116000510 rfl b a2 H d
    ·exact G1 0x8b11b60a111190511a91387116000510 rfl b a1.1 H d
    ·exact G1 0x960b1111b0a1111a0511019131181487116000510 rfl b b2 a1.1 a2 H
def LH.D(k:LH c s0):cn (aw ir) (cR (cQ c))<=cn (aw jv) c+1:=by
 show cn (aw ir) (ay (cS c) (cc (cS c) (ck (cS c))))<=_;rw[gG];have h:=k.cnt c.rows.length 0 (a5 c.rows.length 0);exact h
end
structure fu(n0:Nat)(rs:List Res)(K:List Nat)(E:Nat->Nat->Bool)(X:PC->Prop)(c:PC):Prop where
 g:GG n0 rs c
 h:Cl K E c
 x:X c
 tr:ko c
 w:cn (aw jv) c+c.ax.length<=20
 two:∃s0,NX c s0
def fu.go(a:fu n0 rs K E X c)(e:∃o,c'=ay c o)(g:GG n0 rs c')(h:Cl K' E' c')(x:X' c')(t:ko c')(H:cn (aw jv) c'<=cn (aw jv) c):fu n0 rs K' E' X' c':=by
 obtain⟨o,rfl⟩:=e;obtain⟨s,b⟩:=a.two;have:=gW c o;have:=a.w;exact⟨g,h,x,t,bt (Nat.add_le_add H (gW c o)) a.w,_,Ez b⟩
def pT(c:PC):∃o,bK c=ay c o:=⟨_,rfl⟩
def pS(c:PC):∃o,cQ c=ay c o:=⟨_,rfl⟩
def pD(c:PC):∃o,cR c=ay c o:=⟨_,rfl⟩
def p2(w:W2)(c:PC):∃o,h6 w c=ay c o:=⟨_,rfl⟩
def Tv(h:∀p r s x,c.rows[p]?=some r->c.rows[p+1]?=some s->dy c (marked c) p r s=some x->x.2=none\/∃t g,x.2=some ⟨.aM t,g⟩/\(aw jv (⟨.aM t,g⟩:R).ty=true->aw jv s.ty=true)):cn (aw jv) (eh c)<=cn (aw jv) c:=uP Ej λp r s x d f H=>by
 have E:x.1=none:=by
  obtain⟨v,w⟩:=fK H;obtain⟨_,_,_,e⟩|⟨_,_,_,_,_,_,_,e⟩:=w.a<;>exact rX e rfl
 obtain⟨a,b⟩:=x;subst E;obtain e|⟨t,g,e,i⟩:=h p r s _ d f H
 ·subst e;exact aZ
 ·subst e;refine bt ?_ (sublist_cons_self r.ty [s.ty]).countP_le;refine rX countP_singleton (rX countP_singleton ?_);cases E:aw jv (⟨.aM t,g⟩:R).ty
  ·exact aZ
  ·exact rX (i E) di
def ZL(k:KH c):cn (aw jv) (eh c)<=cn (aw jv) c:=Tv λp r s x H a d=>by
 obtain⟨⟨_,e⟩,v,k,t,_,_,rfl⟩|⟨⟨_,e⟩,v,t,z,b,l,_,E,_,_,rfl⟩:=k.ty H a d
 ·cases v.truth==k
  ·exact .inl rfl
  ·exact .inr ⟨_,_,rfl,λZ=>by refine rX e ?_;kernel_rfl⟩
 ·refine .inr ⟨_,_,rfl,λh=>?_⟩;rw[show(⟨.aM (bif v.truth==b then l else t+1),s.g⟩:R).ty=298 from(show s.g*16+10=s.g*16+s.o.kd by exact rX E rfl).trans e]at h;exact ft h
def ZM(h:Cl KQ bL c):cn (aw jv) (eh c)<=cn (aw jv) c:=Tv λp r s x H a b=>by
 obtain⟨⟨_,e⟩,v,k,t,_,E,rfl⟩:=l4 h H a b;cases v.truth==k
 ·exact .inl rfl
 ·refine .inr ⟨_,_,rfl,λh=>?_⟩;rw[mF e (rX E rfl) (m:=330) (by kernel_rfl)]at h;exact ft h
def fu.T0(a:fu n0 rs K0 E0 wy c):fu n0 rs K0 E0 wy (bK c):=a.go (pT c) a.g.pT (Zq a.h a.g.ok) (a.x.T a.h a.g.ok) (NO a.tr a.h a.g.ok iM) (bx (GO a.h a.g.ok iM))
theorem fu.KH(a:fu n0 rs K0 E0 wy c):KH c:=⟨a.h.mono (by kernel_rfl),a.g.ok,a.x⟩
def fu.kK1(a:fu n0 rs K0 E0 wy c):fu n0 rs K1 E1 RW (eh c):=by
 have k:=a.KH;have h:=ZL k;have g:=a.g.pK;obtain⟨o,b,e,sc⟩:=c8 Ej;have e:eh c=ay c o:=e;rw[e]at g h⊢;exact a.go ⟨o,rfl⟩ g (k.cl sc) (k.Lv sc) (NP a.tr sc) h
def fu.U1(a:fu n0 rs K1 E1 RW c):fu n0 rs K2 bL (hP False) (cI c):=by
 have k:UH c:=⟨a.h,a.g.ok,a.x⟩;have H:=GR (f:=aw jv) (c:=c);have g:=a.g.pU;obtain⟨o,b,e,sc⟩:=c8 Ei;have e:cI c=ay c o:=e;rw[e]at g H⊢;exact a.go ⟨o,rfl⟩ g (k.cl sc) (k.in4 sc) (NQ a.tr sc) H
def tS3:c4 (Nt K3 fZ) (Nt K8 fZ)=true:=by kernel_rfl
def fu.S1(a:fu n0 rs K2 bL (hP False) c):fu n0 rs K3 bL (hP False) (cQ c):=a.go (pS c) a.g.pS (Nu (a.h.mono (by kernel_rfl)) a.g.ok (ij (by kernel_rfl)) (by kernel_rfl) (aG tS3).1) (Zv a.x a.h a.g.ok) (NR a.tr) (NU (by kernel_rfl))
def fu.D1(a:fu n0 rs K3 bL (hP False) c):fu n0 rs K3 bL (hP False) (cR c):=a.go (pD c) a.g.pD (Nv a.h a.g.ok (Em (by kernel_rfl))) (Zw a.x a.h a.g.ok (by kernel_rfl)) (NS a.tr) B5
def fu.P1(a:fu n0 rs K3 bL (hP False) c):fu n0 rs K4 bL (hP False) (dE c):=a.go (p2 _ c) a.g.pP (Zl a.h a.g.ok) (Zy a.x) (Et a.tr a.h (by kernel_rfl)) GQ
def tC:c4 (NA K4 K4 fZ) (NA K7 KT fZ)=true:=by kernel_rfl
def pC(c:PC):∃o,dU c=ay c o:=⟨_,rfl⟩
def fu.C1(a:fu n0 rs K4 bL (hP False) c):fu n0 rs K4 bL (hP False) (dU c):=a.go (pC c) a.g.pC (Tn a.h a.g.ok (ij (by kernel_rfl)) (by kernel_rfl) (aG tC).1 λp r h Z=>a.h.ty p r h) (ZA a.x) (ZJ a.tr a.h) GU
def fu.W1(a:fu n0 rs K4 bL (hP False) c):fu n0 rs K6 bL (hP False) (gb c):=have h:=Zm a.h a.g.ok;a.go (p2 _ c) a.g.pW h (Zz a.x) (ZI a.tr h) NT
def X9(c:PC):Prop:=hP True c/\lR c
def NY(h:Cl K bL c)(o:Ok c)(H:aw K 901=true)(f:Fx K K [] fZ bL):Cl K bL (bK c):=Tj h o fL f H
def fu.T2(a:fu n0 rs K6 bL (hP False) c):fu n0 rs K6 bL X9 (bK c):=a.go (pT c) a.g.pT (NY a.h a.g.ok (by kernel_rfl) (ij (by kernel_rfl))) ⟨ZC a.x a.h a.g.ok,NJ a.h a.g.ok⟩ (NO a.tr a.h a.g.ok fL) (bx (GO a.h a.g.ok fL))
def X10(c:PC):Prop:=Zt c/\lR c
def fu.kK2(a:fu n0 rs K6 bL X9 c):fu n0 rs K7 bL X10 (eh c):=by
 have h:Cl KQ bL c:=a.h.mono (by kernel_rfl);have H:=ZM h;have g:=a.g.pK;have b:=Zp a.h a.g.ok;obtain⟨o,B,e,sc⟩:=c8 Ej;have e:eh c=ay c o:=e;rw[e]at g H b⊢;exact a.go ⟨o,rfl⟩ g b ⟨ZD a.x.1 h (λp r d e=>by have:=a.h.ty p r d;rw[e]at this;exact ft (ag (show aw K6 330=false by kernel_rfl) this)) sc,ZE h a.x.2 a.g.ok sc⟩ (NP a.tr sc) H
def X11(c:PC):Prop:=Zu c/\lR c
def fu.U2(a:fu n0 rs K7 bL X10 c):fu n0 rs K7 bL X11 (cI c):=by
 have H:=GR (f:=aw jv) (c:=c);have g:=a.g.pU;have b:=Zn a.h a.g.ok;obtain⟨o,B,e,sc⟩:=c8 Ei;have e:cI c=ay c o:=e;rw[e]at g H b⊢;exact a.go ⟨o,rfl⟩ g b ⟨ZF a.x.1 a.h sc,ZG a.h a.x.2 a.g.ok sc⟩ (NQ a.tr sc) H
abbrev DS(n:Nat)(rs:List Res)(m:Nat)(c:PC):Prop:=GG n rs c/\Cl K8 bL c/\ko c/\cn (aw ir) c+c.ax.length<=m/\∀q,q<c.rows.length->Reach c q
def NZ(h:Cl K7 bL c)(o:Ok c):Cl K8 bL (cQ c):=Nu (h.mono (by kernel_rfl)) o (ij (by kernel_rfl)) (by kernel_rfl) (aG tS3).2
def ZN(h:Cl K8 bL c)(o:Ok c):Cl K8 bL (cR c):=Nv h o (Em (by kernel_rfl))
def fu.ds(a:fu n0 rs K7 bL X11 c):DS n0 rs 21 (cR (cQ c)):=by
 have gS:=a.g.pS;obtain⟨s,H⟩:=a.two;have k:LH c s:=⟨a.h,(NZ a.h a.g.ok),a.g.ok,gS.ok,a.x.1,a.x.2,H⟩;have c1:(cQ c).ax.length<=c.ax.length:=gW _ _;have c2:(cR (cQ c)).ax.length<=(cQ c).ax.length:=gW _ _;exact⟨gS.pD,ZN (NZ a.h a.g.ok) gS.ok,NS (NR a.tr),lS 0x961189110142870111170511015265010 rfl k.D a.w c1 c2,wB gS.ok⟩
def lY(c:PC):PC:=gb (dU (dE (cR (cQ (cI (eh (bK c)))))))
def fo(c:PC):round c=lY c:=(rU c).symm
def fu.r1(a:fu n0 rs K0 E0 wy c):fu n0 rs K6 bL (hP False) (lY c):=a.T0.kK1.U1.S1.D1.P1.C1.W1
def fu.r2(a:fu n0 rs K0 E0 wy c):DS n0 rs 21 (cR (cQ (cI (eh (bK (lY c)))))):=a.r1.T2.kK2.U2.ds
section
variable{p:Nat}
def N0(h:Cl K7 bL c)(o:Ok c)(t:ko c):Cl KT bL (dU c):=Tn h o (ij (by kernel_rfl)) (by kernel_rfl) (aG tC).2 λp r H b=>by
 by_cases e:r.ty=120
 ·exfalso;obtain g|⟨⟨s,G,d⟩,_⟩:=t p r H e
  ·obtain⟨s,z,a1,a2,A⟩:=g.dC h H e;exact ft (ag (b s z a1 a2) A)
  ·have:=h.ty _ _ G;rw[d]at this;exact ft (ag (show aw K7 137=false by kernel_rfl) this)
 ·have a:(match Nat.beq 120 r.ty with|true=>true|false=>aw KT r.ty)=true:=h.ty p r H;have a:=(zM λh=>e h.symm)▸a;exact a
def uQ(h:Cl K E c)(H:c.rows[p]?=some r)(e:r.ty=q)(a:aw K q=false){P:Prop}:P:=ft (ag a (e▸h.ty p r H))
def Tw(h:Cl KT bL c)(o:Ok c):eh c=c:=Ey o Ej λp r s x a b d=>by
 obtain⟨H|H,_⟩|⟨H,_⟩:=NB h (by kernel_rfl) a b d
 ·exact uQ h a H.1 (by kernel_rfl)
 ·exact uQ h a H.1 (by kernel_rfl)
 ·exact uQ h a H.1 (by kernel_rfl)
def Tx(h:Cl KT bL c)(b:Ok c):dU c=c:=R3 b λp r H=>by
 cases e:r.o.fB with
 |false=>rfl
 |true=>exact ft (bO (bC (show cT (λa=>imp (dY [8] a) false) KT=true by kernel_rfl) (h.ty p r H)) (bR e))
def pairs(K:List Nat)(f:Nat->Nat->Bool):Bool:=cT (λa=>cT (λb=>imp (dO a b) (imp (f a b) false)) K) K
def yp(h:Cl K bL c)(b:pairs K f=true)(H:c.rows[p]?=some r)(a:c.rows[p+1]?=some s)(d:f r.ty s.ty=true){P:Prop}:P:=ft (bO (bO (bC (bC b (h.ty _ _ H)) (h.ty _ _ a)) (h.oH H a)) d)
def N1(h:Cl KT bL c)(o:Ok c):gb c=c:=Ey o Eh λp r s x b d H=>by
 refine yp h (f:=ng) (by kernel_rfl) b d (lu ?_ (bR (rX (dH H).s rfl)));obtain⟨e,_⟩|⟨e,_⟩:=(dH H).a<;>exact bR (rX e rfl)
def Tz(h:Cl KT bL c)(o:Ok c):dE c=c:=Ey o BQ λp r s x a b H=>yp h (f:=jo) (by kernel_rfl) a b (lu (bR (dG H).r) (bR (rX (dG H).s rfl)))
def tUT:c4 (lr KT KT [] fZ l3 RV yn) (ui KT l3)=true:=by kernel_rfl
def N2(h:Cl KT bL c)(o:Ok c):Cl KT bL (cI c):=
 let⟨a,b⟩:=aG tUT
 Th h o (ij (by kernel_rfl)) (by kernel_rfl) a b
def N3(h:Cl KT bL c)(o:Ok c):Cl KT bL (bK c):=NY h o (by kernel_rfl) (ij (by kernel_rfl))
def N7(h:Cl KT bL c)(o:Ok c):Cl KU bL (cQ c):=Nu (h.mono (by kernel_rfl)) o (ij (by kernel_rfl)) (by kernel_rfl) (by kernel_rfl)
def N8(h:Cl KU bL c)(o:Ok c):Cl KU bL (cR c):=Nv h o (Em (by kernel_rfl))
def R5(h:Cl KT bL c)(o:Ok c):cn (aw ir) c<=cn (aw ir) (cI c)->cI c=c:=(Ex o Ei λp r s x H d e=>by
 obtain⟨b,l,w⟩:=cJ e;refine rX w.a ?_;have:dI [some (⟨.br (!b) l,r.g⟩:R),none]=[r.ty]:=congrArg (λn=>[n]) (km ⟨_,_,w.br⟩);refine rX this ?_;show List.countP _ [r.ty]<List.countP _ ([r.ty]++[s.ty]);refine rX countP_append (rX (countP_singleton (a:=s.ty)) ?_);have f:=bO (bO (bO (bC (bC (show cT (λa=>cT (λb=>imp (dO a b) (imp (dY [11] a) (imp (dY [10] b) (aw ir b)))) KT) KT=true by kernel_rfl) (h.ty _ _ H)) (h.ty _ _ d)) (h.oH H d)) (bR (rX w.br rfl))) (bR (rX w.s rfl));exact rX (aO f) (ba _)).2
def B7(h:Cl KT bL c)(g:Ok c)(H:c.rows[p]?=some r)(d:r.o.bo=some (p+1)):aw ir r.ty=true:=by
 have f:c.rows[p+1]?=some (c.rows[p+1]'(g.t r (gh H) _ d)):=dv _;have i:aw [10,11] r.o.kd=true:=by cases e:r.o<;>rw[e]at d<;>first|exact nn d|rfl
 have k:=bO (bO (bO (bC (bC (show cT (λa=>cT (λz=>imp (dY [10,11] a) (imp (dO a z) (imp (aw c3 z) (or3 (Nat.beq a 426) (aw ir a))))) KT) KT=true by kernel_rfl) (h.ty _ _ H)) (h.ty _ _ f)) (bR i)) (h.oH H f)) ((h.tg _ _ _ _ H d f).1.elim id λh=>ft h);obtain k|k:=jU k
 ·have e:=lT k;exact eD (ag (px (b:=432) (e▸h.oH H f) (by kernel_rfl) (by kernel_rfl)) ((h.tg _ _ _ _ H d f).2.2.2 e)) (by kernel_rfl)
 ·exact k
def R6(h:Cl KT bL c)(o:Ok c)(H:cn (aw ir) c<=cn (aw ir) (cQ c)):cQ c=c:=by
 obtain⟨B,sc⟩:=BO bh c.rows 0;have H:cn (aw ir) c<=cn (aw ir) (ay c (cc c bh)):=H;rw[gG]at H
 have:=sc.same (λp a l o' d f=>by
  cases d with
  |mk r l=>
   have g:=(dg f).1;obtain⟨_,e⟩|⟨E,e⟩|⟨b,E,e⟩:=cf p r<;>refine rX e ?_
   ·exact .inl rfl
   ·refine .inr ?_;exact rX countP_singleton (rX (aO (B7 h o g (rX E rfl))) (Nat.one_pos))
   ·refine .inr ?_;exact rX countP_singleton (rX countP_singleton (rX (aO (B7 h o g (rX E rfl))) (rX (zQ (by kernel_rfl)) (Nat.one_pos))))) rfl
 show ay c (cc c bh)=c;exact rX (show cc c bh=c.rows.map some from this.2 H) (rX (iX o) rfl)
def R7(h:Cl KU bL c):ko c:=λp r H e=>uQ h H e (by kernel_rfl)
abbrev FP(c:PC)(o:List (Option R)):Prop:=(∀(q:Nat) (r:R),o[q]?=some (some r)->c.rows[q]?=some r)/\(∀(q:Nat) (r:R) (t:Nat),c.rows[q]?=some r->r.o.bo=some t->o[q]?=some (some r))/\o.length=c.rows.length/\∀k∈c.ax,aK o k.first<aK o k.last
def p7(f:FP c o)(h:marked c p=true):marked (ay c o) (aK o p)=true:=by
 obtain h|h:=pF h
 ·obtain h|h:=pF h
  ·obtain⟨r,a,e⟩:=any_eq_true.1 h;obtain⟨q,b⟩:=mem_iff_getElem?.1 a;have e:=beq_iff_eq.1 e;refine dn (bT (f.2.1 q r p b e)) ?_;exact rX (dm e) (rX e rfl)
  ·obtain⟨k,H,e⟩:=any_eq_true.1 h;have e:=beq_iff_eq.1 e;subst e;exact fW (wA H (f.2.2.2 k H))
 ·obtain⟨x,d,e⟩:=any_eq_true.1 h;have e:=beq_iff_eq.1 e;subst e;exact fX (mem_map_of_mem d)
def EA(f:FP c o)(h:∀p,p<c.rows.length->qH c p):∀p,p<c.rows.length->qH (ay c o) (aK o p):=by
 intro p;induction p with
 |zero=>
  intro a;obtain h|⟨q,_,e,_⟩:=h 0 a
  ·exact .inl (p7 f h)
  ·exact nomatch e
 |succ p i=>
  intro a;obtain h|⟨q,r,e,b,d⟩:=h (p+1) a
  ·exact .inl (p7 f h)
  ·obtain rfl:=bz e;cases H:o[p]? with
   |none=>have:=List.getElem?_eq_none_iff.1 H;rw[f.2.2.1]at this;exact gY (ln2 0x56116115012011110 rfl a this)
   |some x=>cases x with
    |none=>exact rX (cG H) (i (PyProof.Rows.place_lt b))
    |some x=>
     obtain rfl:=aj (ag (f.1 p x H) b);exact rX (aP H) (.inr ⟨_,_,rfl,bT H,(fe o _).2.trans d⟩)
def B8(f:FP c o)(h:∀p,p<c.rows.length->qH c p):∀p,p<(ay c o).rows.length->qH (ay c o) p:=λP H=>by
 obtain⟨p,r,a,b,_⟩:=cU (dv H);refine rX b.symm ?_;refine EA f h p ?_;exact rX (f.2.2.1).symm (cu a)
def ZO(h:∀p,p<c.rows.length->qH c p)(i:(dE c).ax.length=c.ax.length):∀p,p<(dE c).rows.length->qH (dE c) p:=by
 obtain⟨o,B,e,sc⟩:=c8 BQ;have e:dE c=ay c o:=e;rw[e]at i⊢;refine B8 ⟨λq r H=>?_,λq r t H b=>?_,sc.len,wz i⟩ h
 ·cases gF sc (rX (sc.len).symm (cu H))with
  |keep f j k _ _ _=>obtain rfl:=aj (aj (ag H k));exact j
  |fst f s x _ _ G g _ _=>rw[(dG G).a]at g;exact nn (aj (ag g H))
  |snd P f s x e _ _ G g=>subst e;rw[(dG G).a]at g;exact nn (aj (ag g H))
 ·refine zP sc H (λs x Z d=>?_) λP f x d=>?_
  ·have:=(dG d).r;cases e:r.o<;>rw[e]at this b<;>first|exact nn b|exact ft this
  ·have:=(dG d).s;rw[this]at b;exact nn b
def ZP(h:∀p,p<c.rows.length->qH c p)(d:(dU c).ax.length=c.ax.length):∀p,p<(dU c).rows.length->qH (dU c) p:=by
 obtain⟨o,B,e,sc⟩:=gw c;rw[e]at d⊢;refine B8 ⟨λq r H=>NI sc H,λq r t H a=>?_,sc.len,wz d⟩ h;cases t7 sc (cu H)with
 |keep f g G _=>obtain rfl:=aj (ag H g);exact G
 |dC P i f s z e j a1 a2 A b _ _ _=>
  subst e;have:=p_ j;obtain rfl|rfl|rfl:=this
  ·obtain rfl:=aj (ag H a1);have a:=((cM b).1)▸a;exact nn a
  ·obtain rfl:=aj (ag H a2);exact nn (ag (wj ((cM b).2.1)).2.2 a)
  ·obtain rfl:=aj (ag H A);have a:=((cM b).2.2.1)▸a;exact nn a
def ZQ(h:Cl KT bL c)(d:Ok c)(z:∀p,p<c.rows.length->qH c p):∀p r,(bK c).rows[p]?=some r->aw ir r.ty=true\/qH (bK c) p:=λp x A=>by
 obtain⟨r,i,rfl⟩:=l5 d A
 have G:∀{n},marked c p=true->r.o.isJ=n->n=false->qH (bK c) p:=λ{n} H E B=>by
  subst E;refine .inl ?_;obtain H|H:=pF H
  ·obtain H|H:=pF H
   ·obtain⟨s,C,e⟩:=any_eq_true.1 H;obtain⟨q,f⟩:=mem_iff_getElem?.1 C;exact dn (iO d f) (h.Ep d fL f (beq_iff_eq.1 e) i B)
   ·obtain⟨k,m,e⟩:=any_eq_true.1 H;have e:=beq_iff_eq.1 e;subst e;have b:=rF (o:=cc c λZ r=>some (bF c r)) λq f=>⟨_,bN (dv (by rw[cO]at f;exact f))⟩;obtain⟨u,k2,D⟩:=d.k k m;refine rX (show bK c=ay c (cc c λZ r=>some (bF c r)) from congrArg (ay c) (iS c.rows λr=>some (bF c r))) ?_;have:=fW (wA m (rX (b _ (by refine rX cO ?_;exact bt (a_ u) k2)) (rX (b _ (rX cO ((λ{j l}=>String.Pos.Raw.mk_le_mk.mp) k2))) (u))));unfold iA at this;rwa[b k.target (rX cO (Nat.le_of_succ_le D))]at this
  ·obtain⟨x0,g,e⟩:=any_eq_true.1 H;have e:=beq_iff_eq.1 e;subst e;have b:=rF (o:=cc c λZ r=>some (bF c r)) λq f=>⟨_,bN (dv (by rw[cO]at f;exact f))⟩;refine rX (show bK c=ay c (cc c λZ r=>some (bF c r)) from congrArg (ay c) (iS c.rows λr=>some (bF c r))) ?_;have:=fX (c:=ay c (cc c λZ r=>some (bF c r))) (mem_map_of_mem g);rwa[b x0 (rX cO (a_ (d.s x0 g)))]at this
 refine rX (h.gQ d fL i) ?_;obtain H|⟨q,s,rfl,v,w⟩:=z p (cu i)
 ·cases y:r.o.isJ with
  |false=>exact .inr (G H y rfl)
  |true=>
   exact .inl (bO (bC (show cT (λa=>imp (dY [10] a) (aw ir a)) c3=true by kernel_rfl) ((h.marked H i).elim id λ⟨_,h⟩=>ft h)) (rD y))
 ·refine .inr (.inr ⟨q,_,rfl,iO d v,?_⟩);obtain⟨_,e⟩|⟨t,_,e⟩:=h.oF d fL v<;>refine rX e ?_
  ·exact w
  ·exact(m8 _ _).2.trans w
def EB(h:Cl KT bL c)(B:Ok c)(m:∀p r,c.rows[p]?=some r->aw ir r.ty=true->Reach c p)(t:∀k∈c.ax,Reach c k.target)(u:∀p r,c.rows[p]?=some r->aw ir r.ty=true\/qH c p):∀p,p<c.rows.length->Reach c p:=by
 intro p;induction p using Nat.strongRecOn with
 |ind p n=>
  intro l;have j:=dv l;obtain b|b:=u p _ j
  ·exact m p _ j b
  obtain H|⟨q,s,rfl,b,v⟩:=b
  ·obtain H|H:=pF H
   ·obtain H|H:=pF H
    ·obtain⟨s,w,e⟩:=any_eq_true.1 H;obtain⟨q,d⟩:=mem_iff_getElem?.1 w;have e:=beq_iff_eq.1 e;have z:aw [10,11] s.o.kd=true:=by cases A:s.o<;>rw[A]at e<;>first|exact nn e|rfl
     have k:=bO (bC (show cT (λa=>imp (dY [10,11] a) (or3 (aw ir a) (or3 (Nat.beq a 395) (Nat.beq a 426)))) KT=true by kernel_rfl) (h.ty _ _ d)) (bR z);obtain k|k:=jU k
     ·exact(m q s d k).bo d e
     ·have g:=h.tg _ _ _ _ d e j
      have f:q<p:=by
       refine g.2.1.elim id λE=>?_;obtain k|k:=jU k
       ·have:=(g.2.2.1 (lT k)).1;exact eD (ag E this) (by kernel_rfl)
       ·have:=g.2.2.2 (lT k);exact eD (ag E this) (by kernel_rfl)
      exact(n q f (Nat.lt_trans f l)).bo d e
    ·obtain⟨k,i,e⟩:=any_eq_true.1 H;exact beq_iff_eq.1 e▸t k i
   ·obtain⟨x,y,e⟩:=any_eq_true.1 H;exact beq_iff_eq.1 e▸.start y
  ·exact(n q (ba q) (Nat.lt_of_succ_lt l)).eR b v
end
def sm(c:PC):Nat:=cn (aw ir) c+c.ax.length
abbrev YS(n:Nat)(rs:List Res)(m:Nat)(y:PC):Prop:=GG n rs y/\Cl KT bL y/\sm y<=m/\(sm y=m->∀p,p<y.rows.length->qH y p)
def DS.ys(d:DS n0 rs m c):YS n0 rs m (gb (dU (dE c))):=by
 refine rX (N1 (N0 (Nr d.2.1 d.1.ok) d.1.pP.ok (Et d.2.2.1 d.2.1 (by kernel_rfl))) d.1.pP.pC.ok) ?_;have a1:=GQ (f:=aw ir) (c:=c);have a2:=GU (f:=aw ir) (c:=dE c);have b1:(dE c).ax.length<=c.ax.length:=gW _ _;have b2:(dU (dE c)).ax.length<=(dE c).ax.length:=gW _ _;refine⟨d.1.pP.pC,(N0 (Nr d.2.1 d.1.ok) d.1.pP.ok (Et d.2.2.1 d.2.1 (by kernel_rfl))),?_,λe=>?_⟩
 ·exact bt (Nat.add_le_add (bt a2 a1) (bt b2 b1)) d.2.2.2.1
 ·unfold sm at e;refine ZP (ZO (λp h=>wC d.1.ok (d.2.2.2.2 p h)) (Sn (bt a2 a1) b1 b2 e d.2.2.2.1).1) (Sn (bt a2 a1) b1 b2 e d.2.2.2.1).2
def abf(h:Cl KT bL y)(o:Ok y):sm (bK y)<=sm y:=by
 have:(bK y).ax.length<=y.ax.length:=gW _ _;unfold sm;exact rX (GO h o fL) (bg this _)
def YS.next(a:YS n0 rs m y)(H:sm (cR (cQ (cI (eh (bK y)))))<=m'):DS n0 rs m' (cR (cQ (cI (eh (bK y))))):=by
 have h:=N3 a.2.1 a.1.ok;have gT:=a.1.pT;rw[Tw h gT.ok]at H⊢;exact⟨gT.pU.pS.pD,(N8 (N7 (N2 h gT.ok) gT.pU.ok) gT.pU.pS.ok).mono (by kernel_rfl),R7 (N8 (N7 (N2 h gT.ok) gT.pU.ok) gT.pU.pS.ok),H,wB gT.pU.pS.ok⟩
def N9(h:Cl KT bL z)(o:Ok z)(g:GG n0 rs z)(H:sm z<=sm (cR (cQ (cI z))))(d:∀p r,z.rows[p]?=some r->aw ir r.ty=true\/qH z p):cI z=z/\cQ z=z/\cR z=z:=by
 have a2:=NU (L:=ir) (c:=cI z) (by kernel_rfl);have a:=B5 (f:=aw ir) (c:=cQ (cI z));have b1:(cI z).ax.length<=z.ax.length:=gW _ _;have b2:(cQ (cI z)).ax.length<=(cI z).ax.length:=gW _ _;have b3:(cR (cQ (cI z))).ax.length<=(cQ (cI z)).ax.length:=gW _ _;unfold sm at H;have E:=R5 h o (bt (IQ H (bt b3 (bt b2 b1))) (bt a a2));rw[E]at a2 a b2 b3 H;have e:=R6 h o (bt (IQ H (bt b3 b2)) a);refine⟨E,e,NW o (EB h o (D_w (bt (IQ H (bt b3 b2)) (bx (congrArg (λx=>cn (aw ir) (cR x)) e)))) (λk b=>?_) d)⟩;exact zI b (wz (bJ (gW _ _) (bt (Sm H (bt a a2)) (bx (congrArg (λx=>(cR x).ax.length) e)))) k b)
def YS.step(a:YS n0 rs m y):(∃d,d<m/\DS n0 rs d (cR (cQ (cI (eh (bK y))))))\/(lY y=bK y/\lY (bK y)=bK y):=by
 have h:=N3 a.2.1 a.1.ok;have gT:=a.1.pT;have e:=Tw h gT.ok;obtain b|H:=Nat.lt_or_ge (sm (cR (cQ (cI (eh (bK y)))))) m
 ·exact .inl ⟨_,b,a.next di⟩
 rw[e]at H;have s1:=abf a.2.1 a.1.ok
 have s2:sm (cR (cQ (cI (bK y))))<=sm (bK y):=by
  have a1:=GR (f:=aw ir) (c:=bK y);have a2:=NU (L:=ir) (c:=cI (bK y)) (by kernel_rfl);have A:=B5 (f:=aw ir) (c:=cQ (cI (bK y)));have b1:(cI (bK y)).ax.length<=(bK y).ax.length:=gW _ _;have b2:(cQ (cI (bK y))).ax.length<=(cI (bK y)).ax.length:=gW _ _;have b3:(cR (cQ (cI (bK y)))).ax.length<=(cQ (cI (bK y))).ax.length:=gW _ _;exact Nat.add_le_add (bt A (bt a2 a1)) (bt b3 (bt b2 b1))
 obtain⟨E,g,i⟩:=N9 h gT.ok gT (bt s1 (bt a.2.2.1 H)) (ZQ a.2.1 a.1.ok (a.2.2.2 (bJ a.2.2.1 (bt H (bt s2 s1)))));refine .inr ⟨?_,?_⟩
 ·unfold lY;rw[e,E,g,i,(Tz h gT.ok),(Tx h gT.ok),(N1 h gT.ok)]
 ·unfold lY;refine rX (R0 gT.ok h fL (NJ a.2.1 a.1.ok)) ?_;rw[e,E,g,i,(Tz h gT.ok),(Tx h gT.ok),(N1 h gT.ok)]
noncomputable def zn:Nat->PC->PC
 |0,c=>c
 |i+1,c=>zn i (round c)
def wG(i:Nat):∀c,zn (i+1) c=round (zn i c):=by
 induction i with
 |zero=>intro c;rfl
 |succ i a=>intro c;show zn (i+1) (round c)=_;rw[a];rfl
def N_:∀k c,(∃i,i<k/\e9 (round (zn i c)) (zn i c)=true/\dA k c=round (zn i c))\/((∀i,i<k->e9 (round (zn i c)) (zn i c)=false)/\dA k c=zn k c):=by
 intro m;induction m with
 |zero=>exact λc=>.inr ⟨λi h=>ak h (Nat.not_lt_zero i),rfl⟩
 |succ k e=>
  intro c;cases h:e9 (round c) c with
  |true=>exact .inl ⟨0,Nat.succ_pos k,h,qj h⟩
  |false=>
   refine rX (Av h) ?_;obtain⟨i,H,a,d⟩|⟨H,a⟩:=e (round c)
   ·exact .inl ⟨i+1,Nat.succ_lt_succ H,a,d⟩
   ·refine .inr ⟨λi b=>?_,a⟩;cases i with
    |zero=>exact h
    |succ i=>exact H i (Nat.lt_of_succ_lt_succ b)
noncomputable def R8(c:PC):Nat->PC
 |0=>cR (cQ (cI (eh (bK (lY c)))))
 |i+1=>cR (cQ (cI (eh (bK (gb (dU (dE (R8 c i))))))))
def EC(c:PC):∀j,zn (j+2) c=gb (dU (dE (R8 c j))):=by
 intro m;induction m with
 |zero=>show round (round c)=_;rw[fo,fo];rfl
 |succ j i=>rw[wG,i,fo];rfl
abbrev Known(n:Nat)(rs:List Res)(c:PC):Prop:=GG n rs c/\∃K E,Cl K E c/\oI E
def N'{f:Str->Bool}{o o':O}(h:∀o:O,f o.name=aw l o.kd)(e:o.name=o'.name):aw l o.kd=aw l o'.kd:=by rw[<-h,<-h,e]
def R9(h:(bF c r).o.name=r.o.name/\(bF c r).o.bo=r.o.bo):bF c r=r:=by
 obtain⟨_,e⟩|⟨t,H,⟨s,E,_,_,e⟩|e⟩:=lp c r
 ·exact e
 ·rw[e,E]at h;exact nn h.2
 ·refine rX e ?_;have:=h.2;rw[e,show(r.cC (toEnd c t)).o.bo=_ from dm H,H]at this;exact rX (aj this) (rX (oJ H) rfl)
noncomputable def tl:Nat->Bool:=λZ=>true
def uR(c:PC):cn tl c=c.rows.length:=by unfold cn tl dq;exact rX countP_true (rX cX rfl)
def ZR:td tl c (j0 (marked c)):=λp r s x Z Z h=>rX ((dG h).a) (Nat.zero_lt_succ _)
def ZS:td tl c (ku (marked c)):=λp r s x Z Z h=>by
 obtain⟨_,e⟩|⟨_,e⟩:=(dH h).a<;>refine rX e ?_
 ·exact Nat.zero_lt_succ _
 ·exact ba 1
def ZT:td tl c (fy (marked c)):=λp r s x Z Z h=>by
 obtain⟨b,l,w⟩:=cJ h;exact rX w.a (ba 1)
def len_K:td tl c (dy c (marked c)):=λp r s x Z Z h=>by
 obtain⟨v,w⟩:=fK h;obtain⟨k,t,_,e⟩|⟨_,_,_,_,_,_,_,e⟩:=w.a<;>refine rX e ?_
 ·cases v.truth==k
  ·exact Nat.zero_lt_succ _
  ·exact ba 1
 ·exact ba 1
def ZU(b:Ok c):cn tl (dU c)<=cn tl c/\(cn tl c<=cn tl (dU c)->dU c=c):=by
 refine I λk=>?_;obtain⟨o,B,e,sc⟩:=gw c;refine k (rX e ?_);rw[gG]
 have:=sc.same (f:=tl) (λp a l o' H d=>by
  cases H with
  |keep r l=>exact .inl rfl
  |dC r s z l g=>exact .inr (by show 1<3;decide)) rfl
 exact⟨this.1,λh=>rX (this.2 h) (iX b)⟩
def ZV(o:Ok c):cn tl (cR c)<=cn tl c/\(cn tl c<=cn tl (cR c)->cR c=c/\∀p,p<c.rows.length->Reach c p):=
 ⟨B5,λh=>have H:=λp a=>D_w h p _ (dv a) rfl;⟨NW o H,H⟩⟩
def ZW:cn tl (cQ c)<=cn tl c:=one_le λZ Z Z Z Z Z=>rfl
def R_(h:cn tl c<=cn tl (cQ c)):∀(p:Nat) (r:R),c.rows[p]?=some r->∃s,bh p r=some s/\(cQ c).rows[p]?=some (cA (cc c bh) s):=by
 have h:cn tl c<=cn tl (ay c (cc c bh)):=h;rw[uR,uR,fk]at h
 have f:∀p r,c.rows[p]?=some r->∃s,bh p r=some s:=by
  intro p r H;cases e:bh p r with
  |some s=>exact⟨s,rfl⟩
  |none=>
   exfalso;have g:aK (cc c bh) (cc c bh).length=((cc c bh).filterMap id).length:=kT _;rw[cO]at g;have i:=(cu H)
   have u:∀n p,aK (cc c bh) (p+n)<=aK (cc c bh) p+n:=by
    intro n;induction n with
    |zero=>intro p;exact di
    |succ n l=>intro p;exact bt (yi (cc c bh) (p+n)).2 (Nat.succ_le_succ (l p))
   have j:=u p 0;have k:=u (c.rows.length-(p+1)) (p+1);rw[cG ((bN H).trans (congrArg some e)),show p+1+(c.rows.length-(p+1))=c.rows.length by exact Nat.add_sub_of_le i]at k;rw[sV]at j;lia
 have a:=rF (o:=cc c bh) λq d=>by
  have d:=cO▸d;have H:=dv d;obtain⟨s,b⟩:=f q _ H;exact⟨s,(bN H).trans (congrArg some b)⟩
 have a:=cO▸a;intro p r H;obtain⟨s,b⟩:=f p r H;have:=bT (c:=c) ((bN H).trans (congrArg some b));rw[a p (a_ (cu H))]at this;exact⟨s,b,this⟩
section
variable{n0 m:Nat}{rs:List Res}{K:List Nat}{E:Nat->Nat->Bool}{c y z:PC}{o:List (Option R)}{p q t:Nat}{r s:R}{w:W2}
def Oa(c:PC)(w:W2):Prop:=∀(p:Nat) (r s:R),c.rows[p]?=some r->c.rows[p+1]?=some s->w p r s=none
def uS(L:Ok c)(H:∀p r s a x,w p r s=some a->a.2=some x->∀q y,w q x y=none)(j:td tl c w)(e:cn tl c<=cn tl (h6 w c)):h6 w c=c/\Oa c w:=by
 refine⟨(Ex L H j).2 e,λp r s n N=>?_⟩;cases hw:w p r s with
 |none=>rfl
 |some x=>
  exfalso;obtain⟨o,bd,T,sc⟩:=c8 H;rw[T,gG]at e
  have V:=(sc.same (λp a l o' Q C=>by
   cases Q with
   |keep r l=>exact .inl rfl
   |dC r s l x W=>exact .inr (j _ _ _ _ (dg C).1 (dg (dg C).2).1 W)) rfl).2 e
  have k:∀{q x},c.rows[q]?=some x->o[q]?=some (some x):=λ{q x} h=>by refine rX V ?_;rw[jO];refine rX h ?_;rfl
  have two:∀{p r s x},c.rows[p]?=some r->c.rows[p+1]?=some s->w p r s=some x->o[p]?=some x.1->o[p+1]?=some x.2->False:=λ{p r s x} g G b u f=>by
   have:=j _ _ _ _ g G b;have this:=(aj (ag (k G) f))▸(aj (ag (k g) u))▸this;exact Nat.lt_irrefl _ this
  cases gF sc (cu n)with
  |keep D g _ _ _ G=>obtain rfl:=aj (ag n g);exact nn (ag (G s N) hw)
  |fst D X x g G b u f _=>exact two g G b u f
  |snd p' D X x Y g G b f=>
   subst Y;cases gF sc (Nat.lt_of_succ_lt (cu n))with
   |keep d i _ _ _ k2=>obtain rfl:=aj (ag g i);exact nn (ag (k2 _ G) b)
   |fst d S x i k2 v A k5 _=>exact two i k2 v A k5
   |snd P d S x' B i k2 v A=>
    subst B;exact nn ((H _ _ _ _ _ v (aj (ag (k k2) A)).symm _ _).symm.trans ((by obtain rfl:=aj (ag g k2);exact b):w (P+1) _ _=some x))
def NoC(c:PC):Prop:=∀(p:Nat) (r s z:R),c.rows[p]?=some r->c.rows[p+1]?=some s->c.rows[p+2]?=some z->jl (marked c) p r s z=false
def R'(f:Ok c)(e:cn tl c<=cn tl (dU c)):dU c=c/\NoC c:=by
 refine⟨(ZU f).2 e,λp r s z H g j=>?_⟩;cases d:jl (marked c) p r s z with
 |false=>rfl
 |true=>
  exfalso;obtain⟨o,D,u,sc⟩:=gw c;rw[u,gG]at e
  have v:=(sc.same (λp a l o' n C=>by
   cases n with
   |keep r l=>exact .inl rfl
   |dC r s z l L=>exact .inr (by show 1<3;decide)) rfl).2 e
  have k:∀{q x},c.rows[q]?=some x->o[q]?=some none->False:=λ{q x} h b=>by rw[v,jO,h]at b;exact nn (aj b).symm
  cases t7 sc (cu H)with
  |keep A G _ B=>obtain rfl:=aj (ag H G);exact ft (ag (B s z g j) d)
  |dC P i A S N Q T a1 a2 V d b1 b2 b3=>exact k a1 b1
abbrev Tail(z:PC):Prop:=cR z=z/\(∀p,p<z.rows.length->Reach z p)/\dE z=z/\Oa z (j0 (marked z))/\dU z=z/\NoC z/\gb z=z/\Oa z (ku (marked z))
def Oc(g:GG n0 rs z)(h:cn tl z<=cn tl (gb (dU (dE (cR z))))):Tail z:=by
 have a2:=GQ (f:=tl) (c:=cR z);have A:=GU (f:=tl) (c:=dE (cR z));have a:=NT (f:=tl) (c:=dU (dE (cR z)));obtain⟨d,D⟩:=(ZV g.ok).2 (by lia);rw[d]at a2 A a h;obtain⟨p1,p2⟩:=uS g.ok BQ ZR (show cn tl z<=cn tl (dE z) by lia);rw[show dE z=z from p1]at A a h;obtain⟨c1,c2⟩:=R' g.ok (bt h a);rw[c1]at a h;obtain⟨w1,w2⟩:=uS g.ok Eh ZS ((λ{i b}=>String.Pos.Raw.mk_le_mk.mp) h);exact⟨d,D,p1,p2,c1,c2,w1,w2⟩
abbrev KUs(z:PC):Prop:=eh z=z/\Oa z (dy z (marked z))/\cI z=z/\Oa z (fy (marked z))
def ZX(g:GG n0 rs z)(h:cn tl z<=cn tl (cI (eh z))):KUs z:=by
 have a1:cn tl (cI (eh z))<=cn tl (eh z):=GR;obtain⟨k,k2⟩:=uS g.ok Ej len_K (bt h a1);rw[show eh z=z from k]at h;obtain⟨u,a⟩:=uS g.ok Ei ZT h;exact⟨k,k2,u,a⟩
def IB(H:bh p r=some r):r.o.bo≠some (p+1):=λa=>by
 obtain⟨h,_⟩|⟨_,e⟩|⟨b,_,e⟩:=cf p r
 ·exact h a
 ·exact nn (ag e H)
 ·have:=aj (ag e H);exact nn (this▸a)
abbrev Still(c:PC):Prop:=(∀(p:Nat) (r:R),c.rows[p]?=some r->bF c r=r)/\KUs c/\(∀(p:Nat) (r:R),c.rows[p]?=some r->bh p r=some r)/\Tail c
def still_of(g:GG n0 rs c)(h:Cl K E c)(n:oI E)(d:e9 (lY c) c=true):Still c/\lY c=c:=by
 have gT:=g.pT;have B:cn tl (lY c)=cn tl c:=by rw[uR,uR];exact(tG d).1
 have G:=GO (f:=tl) h g.ok n;have b1:=ZW (c:=cI (eh (bK c)));have b4:cn tl (lY c)<=cn tl (cQ (cI (eh (bK c)))):=bt NT (bt GU (bt GQ B5));have k:=ZX gT (by lia);unfold lY at B b4 d;rw[k.1,k.2.2.1]at B b1 b4 d;have T:=Oc gT.pS (by lia);have d:=T.2.2.2.2.2.2.1▸T.2.2.2.2.1▸T.2.2.1▸T.1▸d;have H:=(tG d).2
 have a:∀(p:Nat) (x:R),(bK c).rows[p]?=some x->bh p x=some x:=λp x u=>by
  obtain⟨s,v,D⟩:=(R_ (by lia)) p x u;obtain⟨_,e⟩|⟨_,e⟩|⟨b,A,e⟩:=cf p x
  ·exact e
  ·exact nn (ag e v)
  ·exfalso;obtain rfl:=aj (ag e v);obtain⟨r,i,rfl⟩:=l5 g.ok u
   have C:r.o.gn=true:=by
    have:=N' (f:=λs=>seq s e7) C' (H p _ r D i).1;exact this.symm
   rw[h.zO g.ok n i (rX (zG C) rfl),(zG C)]at A;exact nomatch A
 have j:=RZ gT.ok a;rw[j]at H T;have l:=λp r i=>R9 (H p _ r (iO g.ok i) i);rw[(zR g.ok l)]at k a T j;exact⟨⟨l,k,a,T⟩,by unfold lY;exact rX (zR g.ok l) (rX k.1 (rX k.2.2.1 (rX j (rX T.1 (rX T.2.2.1 (rX T.2.2.2.2.1 (rX T.2.2.2.2.2.2.1 rfl)))))))⟩
def Still.no(k:Still c)(p:Nat):uB c p:=by
 intro a b u A B;have C:=k.2.2.2.2.2.2.1 p a b u A;have H:=k.2.1.2.1 p a b u A;have i:=k.2.1.2.2.2 p a b u A;have j:=k.2.2.2.2.2.2.2.2.2.2 p a b u A;unfold j0 at C;unfold ku at j;rw[B]at C j;refine⟨?_,?_,?_,?_,?_,λt r2 n L D=>?_,λr2 D P Q S=>?_⟩
 ·cases d:a.o.isPlain with
  |false=>rfl
  |true=>cases e:b.o.gn with
   |false=>rfl
   |true=>rw[d,e]at C;exact nn C.symm
 ·cases d:a.o.ky with
  |false=>rfl
  |true=>cases f:b.o.g7 with
   |false=>rfl
   |true=>
    obtain⟨v,G⟩:=wt (by have h:(match Nat.beq 0 a.o.kd with|true=>true|false=>false)=true:=d;cases e:Nat.beq 0 a.o.kd<;>rw[e]at h;exact ft h;exact(lT e).symm);rw[<-nY]at f;obtain⟨x,g⟩:=Option.isSome_iff_exists.1 f;exact ak H (qE G (gz g) B)
 ·cases d:a.o.cY with
  |false=>rfl
  |true=>cases f:b.o.cY with
   |false=>rfl
   |true=>rw[d,f]at j;exact nn j.symm
 ·cases d:a.o.fB with
  |false=>rfl
  |true=>cases f:b.o.cY with
   |false=>rfl
   |true=>
    have:a.o.cY=false:=by exact rX (Eg d) rfl
    rw[d,f,this]at j;exact nn j.symm
 ·cases d:a.o.g7 with
  |false=>rfl
  |true=>cases f:b.o.isJ with
   |false=>rfl
   |true=>
    rw[<-nY]at d;obtain⟨x,g⟩:=Option.isSome_iff_exists.1 d;rw[<-nZ]at f;obtain⟨l,T⟩:=Option.isSome_iff_exists.1 f;by_cases e:a.o.bo=some (p+2)
    ·exfalso;have e:=(gz g)▸e;have e:=aj e;unfold fy at i;have i:=T▸g▸i;dsimp only at i;rw[B,e,beq_self_eq_true _]at i;exact nn i.symm
    ·exact rX (decide_eq_false e) rfl
 ·cases N:r2.o.g7 with
  |false=>rfl
  |true=>
   exfalso;rw[<-CR]at n;obtain⟨v,G⟩:=Option.isSome_iff_exists.1 n;rw[<-nY]at N;obtain⟨x,g⟩:=Option.isSome_iff_exists.1 N;have V:b.o.bq=none:=by exact rX L rfl
   have W:b.o.jt=some t:=by exact rX L rfl
   unfold dy at H;rw[G]at H;rw[B]at H;rw[V,W]at H;dsimp only at H;rw[D,Option.bind_some,g]at H;exact nn H.symm
 ·have:=k.2.2.2.2.2.2.2.2.1 p a b r2 u A D;unfold jl at this;have this:=B▸S▸Q▸P▸this;cases e:marked c (p+2)with
  |true=>rfl
  |false=>have this:=e▸this;exact tf this
def IC(h:lY c=c):∀k,dA (k+1) c=c:=λk=>by
 refine rX (qj (by rw[fo];refine rX h ?_;exact jg c)) ?_;rw[fo,h]
def Od(g:GG n0 rs c)(h:Cl K E c)(b:oI E)(l:e9 (lY c) c=true):ix c/\lY c=c:=by
 obtain⟨k,e⟩:=still_of g h b l;refine⟨⟨by refine rX (IC e 23) ?_;exact jg c,k.2.2.2.2.1,λp r t a H=>⟨λe=>IB (k.2.2.1 p r a) (e▸H),λr2 n=>?_⟩,k.no⟩,e⟩;obtain⟨s,i,u,v,_⟩:=h.toEnd g.ok b a H;have j:=k.1 p r a;obtain⟨d,_⟩|⟨t',d,x⟩:=h.oF g.ok b a
 ·exact nn (ag d H)
 ·cases ag d H;rw[x]at j;have f:(r.cC (toEnd c t)).o.bo=some (toEnd c t):=(dm H);rw[j,H]at f;rw[<-(aj f:t=toEnd c t)]at i;obtain rfl:=aj (ag i n);exact⟨u,λZ=>v⟩
def ID(a:fu n0 rs K0 E0 wy c):ix (dA 24 c):=by
 have P:∀j,∃m,DS n0 rs m (R8 c j):=by
  intro j;induction j with
  |zero=>exact⟨_,a.r2⟩
  |succ j x=>obtain⟨m,h⟩:=x;exact⟨_,h.ys.next di⟩
 have k:∀i,GG n0 rs (zn i c)/\∃K E,Cl K E (zn i c)/\oI E:=λi=>by
  cases i with
  |zero=>exact⟨a.g,_,_,a.h,iM⟩
  |succ i=>cases i with
   |zero=>
    have b:=a.r1;rw[<-fo]at b;exact⟨b.g,_,_,b.h,fL⟩
   |succ j=>
    refine rX (show j+1+1=j+2 from rfl) ?_;rw[EC];obtain⟨m,h⟩:=P j;exact⟨h.ys.1,_,_,h.ys.2.1,fL⟩
 have fin:∀i,e9 (round (zn i c)) (zn i c)=true->ix (zn i c)/\round (zn i c)=zn i c:=λi A=>by
  obtain⟨g,K,E,h,D⟩:=k i;rw[fo]at A⊢;exact Od g h D A
 obtain⟨i,_,e,G⟩|⟨b,e⟩:=N_ 24 c
 ·obtain⟨L,N⟩:=fin i e;exact rX G (rX N L)
 ·refine rX e ?_;refine(fin 24 ?_).1
  have d:∀j,j<=21->∃m,m+j<=21/\DS n0 rs m (R8 c j):=by
   intro j;induction j with
   |zero=>intro _;exact⟨21,di,a.r2⟩
   |succ j x=>
    intro C;obtain⟨m,f,l⟩:=x (Nat.le_of_succ_le C);obtain⟨B,H,n⟩|⟨u,v⟩:=l.ys.step
    ·exact⟨B,bX 0x7512015267011015211605010 rfl f H,n⟩
    ·exfalso;have:=b (j+3) (Nat.add_lt_of_lt_sub C);rw[wG,EC,fo,fo,u,v]at this;exact tf (ag (jg _) this)
  obtain⟨m,f,l⟩:=d 21 di;obtain⟨B,H,_⟩|⟨u,v⟩:=l.ys.step
  ·exact gY (ln2 0x5612015201525011011110 rfl f H)
  ·rw[wG 23,EC c 21,fo,fo,u];refine rX v ?_;exact jg _
end
def RO(c:PC)(p:Nat)(x:O):Prop:=∃r,c.rows[p]?=some r/\r.o=x
def Runs(c:PC)(n p:Nat)(st:St):Prop:=∃r,exec c n p st=some r
def jA(ns k:Nat)(bI:Nat->Option SV)(l:List SV):Prop:=l.length=ns/\(∀i,i<2->∃x,l[i]?=some (.v x))/\∀i,2<=i->i<k->l[i]?=bI i
def GoodR(c:PC)(k:Nat)(bI:Nat->Option SV)(n q:Nat):Prop:=∀l b N,jA c.ns k bI l->Runs c n q ⟨[],l,b,N⟩
def l6(c:PC)(k:Nat)(bI:Nat->Option SV)(n q:Nat):Prop:=∀x l b N,jA c.ns k bI l->∀a,c.ax.find? (·.on q)=some a->Runs c n a.target ⟨[.way x],l,b,N⟩
section
variable{st g_:St}
def Runs.mono(h:Runs c n p st)(H:n<=m):Runs c m p st:=let⟨r,h⟩:=h;⟨r,qA m h H⟩
def Runs.go(h:RO c p x)(H:act x (p+1) st=some (.go q g_))(k:Runs c n q g_):Runs c (n+1) p st:=by
 obtain⟨y,a,rfl⟩:=h;obtain⟨r,k⟩:=k;exact⟨r,(rz a H).trans k⟩
def Runs.push(h:RO c p (.push v))(k:Runs c n (p+1) ⟨.v v::s,l,b,nt⟩):Runs c (n+1) p ⟨s,l,b,nt⟩:=.go h rfl k
def Runs.aL(h:RO c p (.aL i))(H:l[i]?=some y)(k:Runs c n (p+1) ⟨y::s,l,b,nt⟩):Runs c (n+1) p ⟨s,l,b,nt⟩:=.go h (by show Option.map _ (l[i]?.map _)=_;exact rX H rfl) k
def Runs.a8(h:RO c p (.a8 i))(H:i<l.length)(k:Runs c n (p+1) ⟨s,l.set i y,b,nt⟩):Runs c (n+1) p ⟨y::s,l,b,nt⟩:=.go h (by show Option.map _ (if i<l.length then _ else none)=_;exact rX (aO H) rfl) k
def Runs.br(h:RO c p (.br a t))(k:v.truth≠a->Runs c n (p+1) ⟨s,l,b,nt⟩)(k2:v.truth=a->Runs c n t ⟨s,l,b,nt⟩):Runs c (n+1) p ⟨.v v::s,l,b,nt⟩:=by
 by_cases e:v.truth=a
 ·exact .go h (congrArg (λq=>some (Act.go q ⟨s,l,b,nt⟩)) (aO e)) (k2 e)
 ·exact .go h (congrArg (λq=>some (Act.go q ⟨s,l,b,nt⟩)) (bc e)) (k e)
def GoodR.mono(h:GoodR c k bI n q)(H:n<=m):GoodR c k bI m q:=λl b N a=>(h l b N a).mono H
def l6.mono(h:l6 c k bI n q)(H:n<=m):l6 c k bI m q:=λx l b N a d e=>(h x l b N a d e).mono H
def jA.set(h:jA ns k bI l){y:SV}(b:(∃z,y=.v z)\/2<=i)(f:i<2\/k<=i):jA ns k bI (l.set i y):=by
 refine⟨(length_set ..).trans h.1,λj H=>?_,λj c d=>?_⟩
 ·obtain⟨x0,a⟩:=h.2.1 j H;by_cases e:i=j
  ·subst e;obtain⟨z,rfl⟩:=b.resolve_right (Nat.not_le.2 H);exact⟨z,List.getElem?_set_self (cu a)⟩
  ·exact⟨x0,(List.getElem?_set_ne e).trans a⟩
 ·exact(List.getElem?_set_ne (by lia)).trans (h.2.2 j c d)
def jA.lt(h:jA ns k bI l)(H:i<2):i<l.length:=let⟨_,hx⟩:=h.2.1 i H;(cu hx)
noncomputable def wH(bI:Nat->Option SV)(k:Nat)(x:Option SV):Nat->Option SV:=λi=>if i=k then x else bI i
def jA.Oe(h:jA ns k bI l)(H:l[k]?=y):jA ns (k+1) (wH bI k y) l:=⟨h.1,h.2.1,λi a b=>by
 unfold wH;by_cases e:i=k
 ·exact rX (aO e) (rX e (rX H rfl))
 ·exact rX (bc e) (h.2.2 i a (by lia))⟩
def jA.ZY(h:jA ns (k+1) (wH bI k y) l)(a:2<=k):jA ns k bI l/\l[k]?=y:=
 ⟨⟨h.1,h.2.1,λi b H=>(h.2.2 i b (Nat.lt_succ_of_lt H)).trans (bc (cm H))⟩,(h.2.2 k a (ba k)).trans (aO rfl)⟩
def qI(a:Nat)(h:∀f,(∀i,2<=i->i<k->f i=bI i)->GoodR c a f m q):GoodR c k bI m q:=λl b n H=>
 h (λi=>if i<k then bI i else l[i]?) (λi Z d=>aO d) l b n ⟨H.1,H.2.1,λi g j=>by
  show l[i]?=if i<k then bI i else l[i]?;by_cases e:i<k
  ·exact rX (aO e) (H.2.2 i g e)
  ·exact rX (bc e) rfl⟩
def jA.lower(h:jA ns k1 B9 l)(b:k<=k1)(c:∀i,2<=i->i<k->B9 i=bI i):jA ns k bI l:=⟨h.1,h.2.1,λi H a=>(h.2.2 i H (i7 a b)).trans (c i H a)⟩
def GoodR.lower(h:GoodR c k bI m q)(H:k<=k1)(a:∀i,2<=i->i<k->B9 i=bI i):GoodR c k1 B9 m q:=λl b n d=>h l b n (d.lower H a)
def l6.lower(h:l6 c k bI m q)(a:k<=k1)(d:∀i,2<=i->i<k->B9 i=bI i):l6 c k1 B9 m q:=λx l b n e f H=>h x l b n (e.lower a d) f H
def Seg(c:PC)(p:Nat)(os:List O):Prop:=∀(i:Nat) (x:O),os[i]?=some x->RO c (p+i) x
def Seg.app(h:Seg c p (a++d)):Seg c p a/\Seg c (p+a.length) d:=⟨λi x H=>h i x (rX (List.getElem?_append_left (cu H)) H),λi x H=>by
 have:=h (a.length+i) x (by refine rX (List.getElem?_append_right (ar _ _)) ?_;rw[Nat.add_sub_cancel_left];exact H);rwa[<-bS]at this⟩
def Seg.hd{os:List O}(h:Seg c p (x::os)):RO c p x/\Seg c (p+1) os:=⟨h 0 x rfl,λi y H=>by have:=h (i+1) y H;rwa[show p+(i+1)=p+1+i by exact Eq.symm (cF p i)]at this⟩
def oL(h:RO c p (.aM t))(g:GoodR c k bI n t):GoodR c k bI (n+1) p:=λl b N H=>.go h rfl (g l b N H)
def yq(m:Ask A)(h:Seg c p (((A t).rows p).map R.o))(g:GoodR c k bI n (p+(A 0).len))(G:GoodR c k bI n t):GoodR c k bI (n+6) p:=λl b N H=>by
 refine I λe=>?_;cases m with
 |pb y a _=>
  obtain⟨d,h⟩:=h.hd;exact e ((Runs.push d (.br h.hd.1 (λZ=>g l b N H) λZ=>G l b N H)).mono (et 0x6150111150010 rfl))
 |bb i a j=>
  obtain⟨d,h⟩:=h.hd;obtain⟨y,f⟩:=H.2.1 i j;exact e ((Runs.aL d f (.br h.hd.1 (λZ=>g l b N H) λZ=>G l b N H)).mono (et 0x6150111150010 rfl))
 |n6 i a j=>
  obtain⟨d,h⟩:=h.hd;obtain⟨r,h⟩:=h.hd;obtain⟨s,h⟩:=h.hd;obtain⟨u,h⟩:=h.hd;obtain⟨w,h⟩:=h.hd;obtain⟨y,f⟩:=H.2.1 i j;have L:∀v,Runs c (n+1) (p+5) ⟨[.v v],l,b,N⟩:=λv=>.br h.hd.1 (λZ=>g l b N H) λZ=>G l b N H;exact e ((Runs.aL d f (.br r (λZ=>.push s (.go u rfl (L _))) λZ=>(Runs.push w (L _)).mono (aE _))).mono (aE _))
def wI{os:List O}(h:Seg c p os)(u:(∃rs,ST rs/\rs.map R.o=os)\/SG os)(g:GoodR c k bI n (p+os.length)):GoodR c k bI (n+8) p:=λl b N H=>by
 refine I λs=>?_;have e:∀{m},n+m<=n+8↔m<=8:=λ{m}=>Nat.add_le_add_iff_left;obtain⟨rs,u,rfl⟩|u:=u
 ·cases u with
  |gone o A=>
   obtain⟨a,h⟩:=h.hd;have f:=h.hd.1;have L:∀y,Runs c (n+1) (p+1) ⟨[y],l,b,N⟩:=λy=>.go f rfl (g l b N H);refine s (Runs.mono (n:=n+2) ?_ (e.2 (by decide)));obtain⟨y,_,rfl⟩|rfl|⟨i,d,rfl⟩|rfl:=A
   ·exact .push a (L _)
   ·exact .go a rfl (L _)
   ·obtain⟨y,w⟩:=H.2.1 i d;exact .aL a w (L _)
   ·exact .go a rfl (L _)
  |dup y o _ A=>
   obtain⟨a,h⟩:=h.hd;obtain⟨f,h⟩:=h.hd;obtain⟨j,h⟩:=h.hd;have r:=h.hd.1;refine s (Runs.mono (n:=n+4) (.push a (.go f rfl ?_)) (e.2 (by decide)));obtain⟨i,d,rfl⟩|rfl:=A
   ·exact .a8 j (H.lt d) (.go r rfl (g _ b N (H.set (.inl ⟨_,rfl⟩) (.inl d))))
   ·exact .go j rfl (.go r rfl (g l _ _ H))
  |Xk=>
   obtain⟨a,h⟩:=h.hd;obtain⟨f,h⟩:=h.hd;obtain⟨j,h⟩:=h.hd;obtain⟨r,h⟩:=h.hd;obtain⟨z,h⟩:=h.hd;obtain⟨C,_⟩:=h.hd;obtain⟨x,t⟩:=H.2.1 0 (by decide);obtain⟨y,w⟩:=H.2.1 1 (by decide);have B:=H.set (i:=1) (y:=.v y) (.inl ⟨_,rfl⟩) (.inl (by decide));exact s (Runs.mono (n:=n+6) (.aL a t (.aL f w (.go j rfl (.go r rfl (.a8 z (H.lt (by decide)) (.a8 C (B.lt (by decide)) (g _ b N (B.set (.inl ⟨_,rfl⟩) (.inl (by decide)))))))))) (e.2 (by decide)))
  |glob i d=>
   obtain⟨a,h⟩:=h.hd;obtain⟨f,h⟩:=h.hd;obtain⟨j,h⟩:=h.hd;obtain⟨r,h⟩:=h.hd;obtain⟨z,_⟩:=h.hd;obtain⟨x,t⟩:=H.2.1 i d;exact s (Runs.mono (n:=n+5) (.aL a t (.go f rfl (.go j rfl (.go r rfl (.go z rfl (g l _ _ H)))))) (e.2 (by decide)))
  |i9=>
   obtain⟨a,h⟩:=h.hd;exact s (Runs.mono (n:=n+2) (.push a (.go h.hd.1 rfl (g l b N H))) (e.2 (by decide)))
 ·cases u with
  |note i d=>
   obtain⟨a,h⟩:=h.hd;obtain⟨f,h⟩:=h.hd;obtain⟨j,h⟩:=h.hd;obtain⟨r,_⟩:=h.hd;obtain⟨x,t⟩:=H.2.1 i d;exact s (Runs.mono (n:=n+4) (.go a rfl (.aL f t (.go j rfl (.go r rfl (g l b _ H))))) (e.2 (by decide)))
  |set y i _ d=>
   obtain⟨a,h⟩:=h.hd;exact s (Runs.mono (n:=n+2) (.push a (.a8 h.hd.1 (H.lt d) (g _ b N (H.set (.inl ⟨_,rfl⟩) (.inl d))))) (e.2 (by decide)))
  |Xj=>
   obtain⟨a,h⟩:=h.hd;obtain⟨f,h⟩:=h.hd;obtain⟨j,h⟩:=h.hd;obtain⟨r,h⟩:=h.hd;obtain⟨z,_⟩:=h.hd;obtain⟨x,t⟩:=H.2.1 0 (by decide);obtain⟨y,w⟩:=H.2.1 1 (by decide);exact s (Runs.mono (n:=n+5) (.aL a t (.aL f w (.go j rfl (.a8 r (H.lt (by decide)) (.a8 z ((H.set (.inl ⟨_,rfl⟩) (.inl (by decide))).lt (by decide)) (g _ b N ((H.set (.inl ⟨_,rfl⟩) (.inl (by decide))).set (.inl ⟨_,rfl⟩) (.inl (by decide))))))))) (e.2 (by decide)))
def Of(d:i<2)(a:j<2)(h:Seg c p (((cZ.o8 i j).rows p).map R.o))(g:GoodR c k bI n (p+6)):GoodR c k bI (n+8) p:=λl b N H=>by
 refine I λe=>?_;obtain⟨f,h⟩:=h.hd;obtain⟨m,h⟩:=h.hd;obtain⟨r,h⟩:=h.hd;obtain⟨s,h⟩:=h.hd;obtain⟨t,h⟩:=h.hd;obtain⟨y,u⟩:=H.2.1 i d;have L:∀v,Runs c (n+1) (p+5) ⟨[.v v],l,b,N⟩:=λv=>.a8 h.hd.1 (H.lt a) (g _ b N (H.set (.inl ⟨_,rfl⟩) (.inl a)));exact e ((Runs.aL f u (.br m (λZ=>.push r (.go s rfl (L _))) λZ=>(Runs.push t (L _)).mono (aE _))).mono (Nat.add_lt_add_left (bD rfl) _))
def lz(h:Seg c p (bu p (a++d))):Seg c p (bu p a)/\Seg c (p+aI a) (bu (p+aI a) d):=by
 rw[fS]at h;have:=h.app;rwa[fi]at this
def eb{x:cZ}(h:Seg c p (bu p (x::d))):Seg c p ((x.rows p).map R.o)/\Seg c (p+x.len) (bu (p+x.len) d):=by
 rw[fH]at h;have:=h.app;rwa[cX,cZ.kP]at this
def rH{os:List O}(h:Seg c p (((cZ.st os).rows p).map R.o)):Seg c p os:=by
 rw[show((cZ.st os).rows p).map R.o=os from CV os]at h;exact h
def zS(b:je p bs)(h:Seg c p (bu p bs))(g:GoodR c k bI n (p+aI bs)):GoodR c k bI (n+8) p:=by
 cases b with
 |st os H=>exact wI (rH (eb h).1) (.inr H) g
 |tg rs a=>exact wI (eb h).1 (.inl ⟨rs,a,rfl⟩) (rX cX g)
 |w6=>exact(oL (eb h).1.hd.1 g).mono (et 555394093072 rfl)
 |w7=>exact(oL (eb h).1.hd.1 g).mono (et 555394093072 rfl)
 |w8 i j d e=>exact Of d e (eb h).1 g
end
noncomputable def TT:Nat->Nat|0=>8|d+1=>TT d+20
section
variable{cs:List Ct}
def gH(h:Ask A):∀t,(A t).len=(A 0).len/\1<=(A 0).len/\(A 0).len<=6:=λt=>by cases h<;>exact⟨rfl,aR rfl,aR rfl⟩
def hG(h:Piece d p k b cs a):k<=a/\a<=k+2^d:=by
 induction h with
 |nil=>exact⟨di,ar _ _⟩
 |simple=>exact⟨di,ar _ _⟩
 |if1 d p k A t b cs a _ _ _ i=>rw[Nat.pow_succ];exact⟨ln2 1695638800 rfl i.1,bX 0x76051172460510 rfl i.2⟩
 |ua d p k A q e b1 b2 c1 c2 g k2 _ _ _ _ _ c f=>rw[Nat.pow_succ];exact⟨bX 0x671175116510 rfl c.1 f.1,gf 0x78051176081172460510 rfl c.2 f.2⟩
 |loop d p k e b cs a _ _ i=>have:=Nat.one_le_two_pow (n:=d);exact⟨ln2 6671427527952 rfl i.1,bX 0x7111171160051172460510 rfl i.2 this⟩
 |eO d p k r q e b B h cs a _ _ _ _ _ _ i=>have:=Nat.one_le_two_pow (n:=d);exact⟨ln2 6671427527952 rfl i.1,bX 0x7111171160051172460510 rfl i.2 this⟩
def len_pos(h:Piece d p k bs cs k')(a:bs≠[]):0<aI bs:=by
 cases h with
 |nil=>exact ak rfl a
 |simple _ _ _ _ b=>
  cases b with
  |st os h=>cases h<;>exact bD rfl
  |tg rs h=>cases h<;>exact bD rfl
  |_=>exact bD rfl
 |if1 _ _ _ A t _ _ _ H=>have:=gH H t;exact bX 0x7111175146500111 rfl this.1 this.2.1
 |ua _ _ _ A q _ _ _ _ _ _ _ H=>have:=gH H (q+1);exact bX 0x7111175146500111 rfl this.1 this.2.1
 |loop=>dsimp only[aI];exact ln2 429770408209 rfl
 |eO=>simp only[bQ];exact bX 6475094389948689 rfl
def Og{c:Ct}(h:q<=c.first/\c.first<c.last/\c.last<q+m/\c.target<q+m)(a:p<=q)(H:q+m<=p+n):p<=c.first/\c.first<c.last/\c.last<p+n/\c.target<p+n:=⟨bt a h.1,h.2.1,i7 h.2.2.1 H,i7 h.2.2.2 H⟩
def gx(h:Piece d p k b cs g):∀c∈cs,p<=c.first/\c.first<c.last/\c.last<p+aI b/\c.target<p+aI b:=by
 induction h with
 |nil=>exact λZ h=>ak h d6
 |simple=>exact λZ h=>ak h d6
 |if1 d p k A t b cs g j h e i=>exact λc H=>Og (i c H) (ar _ _) (by dsimp only[aI];refine rX ((gH j t).1) ?_;exact bx (bS ..))
 |ua d p k A q e b1 b2 c1 c2 s k2 j a E u v l m=>
  intro c H;simp only[aI,bQ,(gH j (q+1)).1];obtain h|h:=iZ H
  ·exact Og (l c h) (ar _ _) (gf 0x81107060507650010 rfl)
  ·exact Og (m c h) (by refine rX E ?_;rw[bS,bS];exact ar _ _) (lS 0x98700513611090807061150010 rfl E)
 |loop d p k e b cs g h w i=>exact λc H=>Og (i c H) (ar _ _) (by simp only[aI,bQ];exact ln2 0x1110604101111010005066150010 rfl)
 |eO d p k r q e b B h cs g n o x f hh y i=>
  intro c H;have:0<h.length:=by cases hh<;>exact bD rfl
  simp only[bQ]at f⊢;obtain a|a:=iZ H
  ·exact Og (i c a) (Nat.le_refl _) (gf 0x18011076005065010 rfl)
  ·exact d5 a▸⟨Nat.le_refl _,gf 0x87050614701126511 rfl (len_pos o n) f,lS 0x870605130190110870060511 rfl f,lS 0x87060513901120190110870060115011 rfl this f⟩
def find_none(h:∀c∈cs,¬(c.first<=q/\q<c.last)):cs.find? (·.on q)=none:=List.find?_eq_none.2 λc H e=>h c H ⟨of_decide_eq_true (aA e).1,of_decide_eq_true (aA e).2⟩
def iY{c1 c2:List Ct}(h:c1.find? (·.on q)=none):(c1++c2).find? (·.on q)=c2.find? (·.on q):=rX List.find?_append (rX h rfl)
def qJ{c1 c2:List Ct}(h:c1.find? (·.on q)=some kk):(c1++c2).find? (·.on q)=some kk:=rX List.find?_append (rX h rfl)
theorem Runs.raise{st:St}{x:Vl}(a:c.rows[p]?=some r)(b:act r.o (p+1) st=some (.raise x ha))(h:∀k,c.ax.find? (·.on p)=some k->Runs c n k.target ⟨[.way x],ha.slots,ha.pI,ha.ej⟩):Runs c (n+1) p st:=by
 have e:=jL (n:=n) a b;unfold after at e;dsimp only at e;cases H:c.ax.find? (·.on p)with
 |none=>rw[H]at e;exact⟨_,e⟩
 |some k=>
  rw[H]at e;obtain⟨r,h⟩:=h k H;exact⟨r,e.trans h⟩
def ED(hh:Hand k h)(B:2<=k)(f:k<c.ns)(H:Seg c p h)(g:GoodR c k bI n (p+h.length))(C:l6 c k bI n (p+h.length-1)):∀x l b N,jA c.ns k bI l->Runs c (n+8) p ⟨[.way x],l,b,N⟩:=by
 intro x l b N A;refine I λz=>?_;have d:k<l.length:=by exact rX A.1 f
 have a:=A.set (y:=.way x) (.inr B) (.inr di);have e:(l.set k (.way x))[k]?=some (.way x):=List.getElem?_set_self d;cases hh with
 |tv j w=>
  obtain⟨y,i⟩:=a.2.1 j w;obtain⟨m,H⟩:=H.hd;obtain⟨o,H⟩:=H.hd;obtain⟨r,H⟩:=H.hd;obtain⟨s,H⟩:=H.hd;obtain⟨t,H⟩:=H.hd;obtain⟨u,H⟩:=H.hd;obtain⟨v,H⟩:=H.hd;exact z (.a8 m d (.go o rfl (.aL r i (.go s rfl (.go t rfl (.aL u e (.go v rfl (.a8 H.hd.1 (a.lt (by decide)) (g _ _ _ (a.set (.inl ⟨_,rfl⟩) (.inl (by decide))))))))))))
 |Xl j w=>
  obtain⟨y,i⟩:=a.2.1 j w;obtain⟨m,H⟩:=H.hd;obtain⟨o,H⟩:=H.hd;obtain⟨r,H⟩:=H.hd;obtain⟨s,H⟩:=H.hd;obtain⟨t,H⟩:=H.hd;obtain⟨u,H⟩:=H.hd;obtain⟨⟨r6,v,G⟩,_⟩:=H.hd;refine z (Runs.mono (.a8 m d (.go o rfl (.aL r i (.go s rfl (.go t rfl (.aL u e (.raise v (rX G rfl) λD E=>?_))))))) (aE _));exact C x _ _ _ a D E
structure GH(c:PC)(d p k:Nat)(bs:List cZ)(cs:List Ct)(n:Nat)(bI:Nat->Option SV):Prop where
 hk:2<=k
 seg:Seg c p (bu p bs)
 cat:∀q,p<=q->q<p+aI bs->∀kk,cs.find? (·.on q)=some kk->c.ax.find? (·.on q)=some kk
 g:GoodR c k bI n (p+aI bs)
 h:∀q,p<=q->q<p+aI bs->cs.find? (·.on q)=none->l6 c k bI n q
def GP(c:PC)(d p k:Nat)(b:List cZ)(cs:List Ct)(a:Nat):Prop:=∀n bI,a<=c.ns->GH c d p k b cs n bI->GoodR c k bI (n+TT d) p
def Sa(e:Ask A)(j:t=p+(A 0).len+aI bs)(l:GP c d (p+(A 0).len) k bs cs k'):GP c (d+1) p k (A t::bs) cs k':=λn bI h H=>by
 have a1:=(gH e t).1;obtain⟨s1,s2⟩:=eb H.seg;rw[a1]at s2;have o:p+aI (A t::bs)=p+(A 0).len+aI bs:=by dsimp only[aI];refine rX a1 ?_;exact Eq.symm (bS p (A 0).len (aI bs))
 obtain⟨m,_,f,g,i⟩:=H;rw[o]at g f i;exact(yq e s1 (l n bI h ⟨m,s2,λq a b=>f q (bX 443724948752 rfl a) b,g,λq a b=>i q (bX 443724948752 rfl a) b⟩) (rX j (g.mono (ar n (TT d))))).mono (by show n+TT d+6<=n+(TT d+20);exact ln2 90740840848490512 rfl)
def Sb{A:Nat->cZ}{q e m k2:Nat}{b1 b2:List cZ}{c1 c2:List Ct}(C:Ask A)(o:Piece d (p+(A 0).len) k b1 c1 m)(b:q=p+(A 0).len+aI b1)(r:Piece d (q+1) m b2 c2 k2)(l:e=q+1+aI b2)(u:GP c d (p+(A 0).len) k b1 c1 m)(v:GP c d (q+1) m b2 c2 k2):GP c (d+1) p k (A (q+1)::(b1++.jj e::b2)) (c1++c2) k2:=λn bI s H=>by
 refine I λG=>?_;obtain⟨a1,a2,_⟩:=gH C (q+1);have y:=hG o;obtain⟨s1,s2⟩:=eb H.seg;rw[a1]at s2;obtain⟨s3,s4⟩:=lz s2;rw[<-b]at s4;obtain⟨S,L⟩:=eb s4;have z:p+aI (A (q+1)::(b1++.jj e::b2))=e:=by simp only[aI,bQ,a1];exact G0 0x811a0091476500a149811070605012 rfl b l
 obtain⟨E,_,j,g,x⟩:=H;rw[z]at g j x;have N:∀Q,q<=Q->c1.find? (·.on Q)=none:=λQ h=>find_none λc j=>by have:=(gx o) c j;exact λY=>gY (G0 0xa91287600a12951187600514011110 rfl b h this.2.2.1 Y.2)
 have B:∀Q,Q<=q->c2.find? (·.on Q)=none:=λQ h=>find_none λc j=>by have:=(gx r) c j;exact λY=>gY (bX 0x571171160116511011110 rfl h this.1 Y.1)
 have P:=qI m λt D=>v n t s ⟨ln2 0x62111561152110 rfl y.1 E,L,λQ f i w a=>j Q (lS 0x6117011985007146510 rfl b f) (gf 0x8117005128117006146511 rfl l i) w ((iY (N Q (ln2 6671427527952 rfl f))).trans a),by refine rX l.symm ?_;exact g.lower y.1 D,λQ f i a=>(x Q (lS 0x6117011985007146510 rfl b f) (gf 0x8117005128117006146511 rfl l i) ((iY (N Q (ln2 6671427527952 rfl f))).trans a)).lower y.1 D⟩;have T:=u (n+1) bI (bX 0x751167116510 rfl s (hG r).1) ⟨E,s3,λQ f i w a=>j Q (bX 443724948752 rfl f) (G1 0xa9800512b11700614a98007146511 rfl b l i) w (qJ a),by refine rX b.symm ?_;exact oL S.hd.1 g,λQ f i a=>(x Q (bX 443724948752 rfl f) (G1 0xa9800512b11700614a98007146511 rfl b l i) ((iY a).trans (B Q (lS 0x98700512987006146510 rfl b i)))).mono (aE _)⟩;exact G ((yq C s1 T (P.mono (aS (ar _ _) _))).mono (by show n+1+TT d+6<=n+(TT d+20);exact ln2 0x142605061611500010 rfl))
def Oh(D:Piece d (p+6) (k+1) bs cs k')(t:e=p+6+aI bs+1)(E:GP c d (p+6) (k+1) bs cs k'):GP c (d+1) p k (.st [.push .tt,.a8 k]::.hd k e::(bs++[.jj (p+2)])) cs k':=λn bI o H=>by
 obtain⟨s1,s2⟩:=eb H.seg;obtain⟨s2,s3⟩:=eb s2;obtain⟨s4,S⟩:=lz s3;obtain⟨P,s1⟩:=s1.hd;obtain⟨m,s2⟩:=s2.hd;obtain⟨A,s2⟩:=s2.hd;obtain⟨Q,s2⟩:=s2.hd;have x:p+aI (.st [.push .tt,.a8 k]::.hd k e::(bs++[.jj (p+2)]))=e:=by simp only[aI,bQ];exact bX 0x116615000714701110604101111010005012 rfl t
 obtain⟨s,_,B,g,C⟩:=H;rw[x]at g B C
 have G:GoodR c (k+1) (wH bI k (some (.v .none))) (n+3) (p+6+aI bs):=by
  refine oL (eb S).1.hd.1 λl b N r=>?_;obtain⟨T,V⟩:=r.ZY s;exact .aL m V (.br A (λh=>ak rfl h) λZ=>g l b N T)
 have f:∀i,2<=i->i<k->wH bI k (some (.v .none)) i=bI i:=λi Z L=>bc (cm L);intro l b N r;have j:k<l.length:=by exact rX r.1 (bX 0x711501167116511 rfl o (hG D).1)
 have a:k<(l.set k (.v .tt)).length:=by exact rX length_set j
 have y:(l.set k (.v .tt))[k]?=some (.v .tt):=List.getElem?_set_self j;have z:((l.set k (.v .tt)).set k (.v .none))[k]?=some (.v .none):=List.getElem?_set_self a;exact Runs.mono (.push P (.a8 s1.hd.1 j (.aL m y (.br A (λZ=>.push Q (.a8 s2.hd.1 a ((E (n+3) _ o ⟨cb s,s4,λq u m=>B q (ln2 7015024911632 rfl u) (gf 0x8617005121186170006146511 rfl t m),G,λq u m w=>((C q (ln2 7015024911632 rfl u) (gf 0x8617005121186170006146511 rfl t m) w).lower (aE _) f).mono (ar n 3)⟩) _ b N (((r.set (.inr s) (.inr di)).set (.inr s) (.inr di)).Oe z)))) λh=>tf h)))) (by show n+3+TT d+6<=n+(TT d+20);exact ln2 0x142605061631500010 rfl)
def EE(hb:bs≠[])(A:Piece d p (k+1) bs cs k')(T:vr bm)(B:q=p+aI (bs++bm))(hh:Hand k h)(t:e=q+1+h.length)(V:GP c d p (k+1) bs cs k'):GP c (d+1) p k (bs++bm++[.jj e,.st h]) (cs++[⟨r,p,q,q+1⟩]) k':=λn bI u H=>by
 refine I λW=>?_;obtain⟨s1,s2⟩:=lz H.seg;obtain⟨s3,s4⟩:=lz s1;rw[<-B]at s2;obtain⟨X,s6⟩:=eb s2;have hhl:0<h.length:=by cases hh<;>exact bD rfl
 have E:p+aI (bs++bm++[.jj e,.st h])=e:=by rw[bQ];exact lS 0x71190081465091480170110605012 rfl B t
 obtain⟨P,_,m,g,S⟩:=H;rw[E]at g m S;have f:p+aI bs+aI bm=q:=by refine rX B ?_;rw[bQ];exact bS p (aI bs) (aI bm)
 have y:∀Q,p<=Q->Q<q->cs.find? (·.on Q)=none->c.ax.find? (·.on Q)=some ⟨r,p,q,q+1⟩:=λQ i j a=>by
  refine m Q i (gf 0x75128117006146511 rfl t j) _ ((iY a).trans ?_);have:(⟨r,p,q,q+1⟩:Ct).on Q=true:=by unfold Ct.on;exact rX (bA i) (rX (bA j) rfl)
  exact rX List.find?_cons (rX this rfl)
 have G:=ED hh P (bX 0x711501167116511 rfl u (hG A).1) (rH (eb s6).1) (by show GoodR c k bI n (q+1+h.length);exact rX t.symm g) (by
  show l6 c k bI n (q+1+h.length-1);rw[Nat.add_right_comm q 1 h.length,Nat.add_sub_cancel];refine S _ (lS 0x69850013760510 rfl f) (by rw[t];exact Nat.add_lt_add_right (ba q) _) ((iY (find_none λc m Y=>have:=(gx A) c m;gY (G0 0x5a980013980712765012011110 rfl Y.2 this.2.2.1 f))).trans (find_none λc m Y=>?_));rw[d5 m]at Y;exact ak Y.2 (Nat.not_lt.2 (ar _ _)))
 have o:∀Q,p<=Q->Q<q->cs.find? (·.on Q)=none->l6 c k bI (n+8) Q:=λQ i j a x l b N C D v=>by
  obtain rfl:=aj (ag (y Q i j a) v);exact G x l b N C
 have z:GoodR c k bI (n+11) (p+aI bs):=by
  cases T with
  |none=>
   exact rX (f) ((oL X.hd.1 g).mono (bU (Nat.succ_pos _)))
  |some x hx=>
   have s4:=rH (eb s4).1;obtain⟨h0,s4⟩:=s4.hd;obtain⟨i,s4⟩:=s4.hd;obtain⟨⟨r2,j,o2⟩,_⟩:=s4.hd;intro l b N C;have s:cs.find? (·.on (p+aI bs+2))=none:=find_none λc m=>by have:=(gx A) c m;exact λY=>gY (bX 0x521760012760512011110 rfl this.2.2.1 Y.2)
   refine Runs.mono (.go h0 rfl (.push i (.raise j (rX o2 rfl) λD a=>?_))) di;obtain rfl:=aj (ag (y _ (by exact ln2 8964277520 rfl) (by exact bX 0x741650013721650011 rfl f) s) a);exact G x l b _ C
 exact W ((qI (k+1) λw L=>V (n+11) w u ⟨cb P,s3,λQ i j D a=>m Q i (G1 0xa905127ba900138117006146511 rfl t f j) D (qJ a),z.lower (aE _) L,λQ i j a=>((o Q i (lS 0x870512698700136511 rfl f j) a).lower (aE _) L).mono (bg (aR rfl) _)⟩).mono (by show n+11+TT d<=n+(TT d+20);exact ln2 90740841011019792 rfl))
def oM(h:Piece d p k b cs f):GP c d p k b cs f:=by
 induction h with
 |nil d p k=>exact λn bI Z H=>GoodR.mono H.g (ar _ _)
 |simple d p k b w=>exact λn bI Z H=>(zS w H.seg H.g).mono (by have:8<=TT d:=(by cases d;exact di;exact bt (by decide:8<=20) (a5 _ _));exact bg this _)
 |if1 d p k A t b cs f l j x i=>exact Sa l x i
 |ua d p k A q e b1 b2 c1 c2 B k2 l m o s a u v=>exact Sb l m o s a u v
 |loop d p k e b cs f j a i=>exact Oh j a i
 |eO d p k r q e b C h cs f y j z o hh a i=>exact EE y j z o hh a i
end
def SF(f:Nat->Option α)(p:Nat)(l:List α):Prop:=∀(i:Nat) (x:α),l[i]?=some x->f (p+i)=some x
def SF.app(h:SF f p (a++d)):SF f p a/\SF f (p+a.length) d:=⟨λi x H=>h i x (rX (List.getElem?_append_left (cu H)) H),λi x H=>by
 have:=h (a.length+i) x (by refine rX (List.getElem?_append_right (ar _ _)) ?_;rw[Nat.add_sub_cancel_left];exact H);rwa[<-bS]at this⟩
def SF.tl(h:SF f p (x::l)):SF f (p+1) l:=λi y H=>by have:=h (i+1) y H;rwa[show p+(i+1)=p+1+i by exact Eq.symm (cF p i)]at this
noncomputable def wJ:Nat->List O->List Nat
 |_,[]=>[]
 |d,o::os=>d::wJ (d-o.ec.1+o.ec.2) os
theorem qK:∀(d:Nat) (os:List O),(wJ d os).length=os.length
 |_,[]=>rfl
 |_,_::os=>congrArg (·+1) (qK _ os)
def abg:List O->Nat
 |[]=>0
 |o::_=>bif o.d9 then 1 else 0
def cZ.p8:cZ->List Nat
 | .st os=>wJ (abg os) os
 | .tg rs=>wJ 0 (rs.map R.o)
 | .o8 _ _=>[0,1,0,1,0,1]
 | .jj _=>[0]
 | .bb _ _ _=>[0,1]
 | .hd _ _=>[0,1,0,1]
 | .pb _ _ _=>[0,1]
 | .n6 _ _ _=>[0,1,0,1,0,1]
def yr(b:cZ):b.p8.length=b.len:=by
 cases b with
 |st os=>exact qK _ _
 |tg rs=>exact(qK _ _).trans (cX ..)
 |_=>rfl
noncomputable def eI:List cZ->List Nat
 |[]=>[]
 |b::bs=>b.p8++eI bs
def Oi:∀(a d:List cZ),eI (a++d)=eI a++eI d:=by
 intro m;induction m with
 |nil=>exact λZ=>rfl
 |cons x a i=>exact λd=>by show x.p8++eI (a++d)=_;refine rX (i d) ?_;rw[<-append_assoc];rfl
def wK:∀B:List cZ,(eI B).length=aI B:=by
 intro m;induction m with
 |nil=>exact rfl
 |cons b B i=>show(b.p8++eI B).length=_;refine rX c9 ?_;rw[yr];refine rX i ?_;rfl
def B_(m:Nat)(o:O):Prop:=∀i,(o=.aL i\/o=.a8 i)->i<m
def f7(h:i<m):B_ m (.aL i):=λj H=>by obtain e|e:=H<;>cases e;exact h
def iB(h:i<m):B_ m (.a8 i):=λj H=>by obtain e|e:=H<;>cases e;exact h
def bW(h:aw [2,3] o.kd=false):B_ m o:=λj H=>by obtain e|e:=H<;>rw[e]at h<;>exact tf h
abbrev Bse(c:PC)(D:Nat->Option Nat)(q:Nat)(r:R)(d:Nat):Prop:=aw K0 r.ty=true/\r.o.ec.1<=d/\(r.o.bZ=false->D (q+1)=some (d-r.o.ec.1+r.o.ec.2))/\∀s,c.rows[q+1]?=some s->dO r.ty s.ty=true
abbrev RT(c:PC)(D:Nat->Option Nat)(q:Nat)(r:R)(d:Nat):Prop:=(∀t,r.o.bo=some t->D t=some (d-r.o.ec.1+r.o.ec.2)/\∃s,c.rows[t]?=some s/\TG E0 r.ty s.ty q t)/\(aw [272,298,304,331] r.ty=true->∃Q i,q=Q+i/\0<i/\i<5/\N6 c Q)/\(r.ty=235->∀t s,r.o.bo=some t->c.rows[t]?=some s->s.ty=304->N6 c q)/\(r.ty=120->qF c (q+1)\/(Eo c (q+1) 137/\qF c (q+2)))
abbrev RJ(c:PC)(D:Nat->Option Nat)(q:Nat)(r:R)(d:Nat):Prop:=c.rows[q]?=some r/\D q=some d/\Bse c D q r d/\B_ c.ns r.o/\RT c D q r d
def RQ(c:PC)(D:Nat->Option Nat)(q:Nat):Prop:=∃r d,RJ c D q r d
def Nx(c:PC)(D:Nat->Option Nat)(q:Nat):Prop:=(∀s,c.rows[q]?=some s->aw c3 s.ty=true)/\D q=some 0
def oN(c:PC)(D:Nat->Option Nat)(q:Nat):Prop:=∃s,c.rows[q]?=some s/\aw c3 s.ty=true/\D q=some 0
def ZZ(c:PC)(D:Nat->Option Nat)(q:Nat):Prop:=∃s,c.rows[q]?=some s/\s.ty=35/\D q=some 1
def abh(r:R)(d:Nat):Bool:=c4 (aw K0 r.ty) (Nat.ble r.o.ec.1 d)
def Oj(r:R)(d a:Nat):Bool:=or3 r.o.bZ (Nat.beq (d-r.o.ec.1+r.o.ec.2) a)
noncomputable def wL:List R->List Nat->Bool
 |[],_=>true
 |r::l,ds=>match ds with
  |[]=>false
  |d::ds=>c4 (abh r d) (match l with
   |[]=>c4 (Oj r d 0) (aw h_ r.ty)
   |s::l=>match ds with
    |[]=>false
    |a::ds=>c4 (Oj r d a) (c4 (dO r.ty s.ty) (wL (s::l) (a::ds))))
def GV(r:R):Bool:=c4 (Option.isNone r.o.bo) (imp (aw [272,298,304,331,120] r.ty) false)
section
variable{D:Nat->Option Nat}{l:List R}{ds:List Nat}
def oN.nx(h:oN c D q):Nx c D q:=let⟨s,h1,h2,h3⟩:=h;⟨λS h=>by obtain rfl:=aj (ag h1 h);exact h2,h3⟩
def GW{l:List Nat}(h:GC l l'=true)(H:aw l x=true):aw l' x=true:=zL h x H
def gI(h:GV r=true):RT c D q r d:=by
 obtain⟨b,H⟩:=aG h;have a:=Option.isNone_iff_eq_none.1 b;have H:=nf H;refine⟨λt e=>nn (ag a e),λh=>?_,λZ t s e Z Z=>nn (ag a e),λe=>?_⟩
 ·exact ft (ag H (GW (by kernel_rfl) h))
 ·rw[e]at H;exact tf H
def B'(h:Oj r d d'=true)(H:D (q+1)=some d'):r.o.bZ=false->D (q+1)=some (d-r.o.ec.1+r.o.ec.2):=λa=>by
 obtain h|h:=jU h
 ·exact ft (ag a h)
 ·exact rX (lT h) H
theorem Cb:∀(l:List R) (ds:List Nat) (p:Nat),wL l ds=true->SF (c.rows[·]?) p l->SF D p ds->Nx c D (p+l.length)->(∀r∈l,B_ c.ns r.o)->(∀(i:Nat) (r:R) d,l[i]?=some r->ds[i]?=some d->RT c D (p+i) r d)->∀i,i<l.length->RQ c D (p+i)
 |[],_=>λZ Z Z Z Z Z Z i b=>ak b (Nat.not_lt_zero i)
 |r::l,[]=>λZ h Z Z Z Z Z Z Z=>ft h
 |[r],d::ds=>λp h e f m a n i b=>by
  obtain rfl:i=0:=by exact bJ (et 74375501072 rfl b) (et 327952 rfl)
  obtain⟨g,H⟩:=aG h;obtain⟨u,v⟩:=aG g;obtain⟨w,k⟩:=aG H;exact⟨r,d,e 0 r rfl,f 0 d rfl,⟨u,aR v,B' w m.2,λs a=>nh (m.1 s a) k⟩,a r eE,n 0 r d rfl rfl⟩
 |r::s::l,[d]=>λp h Z Z Z Z Z Z Z=>by
  have H:=(aG h).2;exact ft H
 |r::s::l,d::z::ds=>λp h e f m a n i b=>by
  obtain⟨g,H⟩:=aG h;obtain⟨u,v⟩:=aG g;obtain⟨w,k⟩:=aG H;obtain⟨k,A⟩:=aG k;cases i with
  |zero=>
   exact⟨r,d,e 0 r rfl,f 0 d rfl,⟨u,aR v,B' w (f 1 z rfl),λx t=>by obtain rfl:=aj (ag (e 1 s rfl) t);exact k⟩,a r eE,n 0 r d rfl rfl⟩
  |succ i=>
   have:=Cb (s::l) (z::ds) (p+1) A e.tl f.tl (rX (show p+1+(s::l).length=p+(r::s::l).length by simp only[length_cons];exact cF p (l.length+1)) (m)) (λx t=>a x (fg t)) (λj x y g H=>rX (show p+1+j=p+(j+1) by exact ln2 4890972946497554 rfl) (n (j+1) x y g H)) i (Nat.lt_of_succ_lt_succ b);rwa[show p+1+i=p+(i+1) by exact ln2 4890972946497554 rfl]at this
def IE(h:l.all GV=true):∀(i:Nat) (r:R) (d:Nat),l[i]?=some r->ds[i]?=some d->RT c D (p+i) r d:=λi r d H Z=>gI (all_eq_true.1 h r (gh H))
structure BH(c:PC)(D:Nat->Option Nat)(p:Nat)(b:cZ):Prop where
 r:SF (c.rows[·]?) p (b.rows p)
 d:SF D p b.p8
 n:Nx c D (p+b.len)
def BK(c:PC)(D:Nat->Option Nat)(p:Nat)(b:cZ):Prop:=∀q,p<=q->q<p+b.len->RQ c D q
def ni(h:BH c D p b)(a:wL (b.rows p) b.p8=true)(e:∀r∈b.rows p,B_ c.ns r.o)(f:∀(i:Nat) (r:R) d,(b.rows p)[i]?=some r->b.p8[i]?=some d->RT c D (p+i) r d):BK c D p b:=λq H g=>by
 have:=Cb _ _ p a h.r h.d (by rw[cZ.kP];exact h.n) e f (q-p) (by rw[cZ.kP];exact Nat.sub_lt_left_of_lt_add H g);rwa[show p+(q-p)=q by exact Nat.add_sub_of_le H]at this
def fM(h:BH c D p b)(H:wL (b.rows p) b.p8=true)(a:(b.rows p).all GV=true)(d:∀r∈b.rows p,B_ c.ns r.o):BK c D p b:=ni h H d (IE a)
def TG.fw(h:aw c3 b=true)(H:p<t\/b=18)(c:a≠395)(d:a≠426):TG E0 a b p t:=⟨.inl h,H,λe=>ak e c,λe=>ak e d⟩
def rI(w:c.rows[q]?=some r)(f:r.o.bo=some t)(i:oN c D t)(j:d-r.o.ec.1+r.o.ec.2=0)(k:q<t\/∀s,c.rows[t]?=some s->s.ty=18)(g:aw [395,426,120,272,298,304,331] r.ty=false):RT c D q r d:=by
 obtain⟨s,a,b,v⟩:=i;have N:∀n,aw [395,426,120,272,298,304,331] n=true->r.ty≠n:=λn h e=>by rw[<-e]at h;exact ft (ag g h)
 refine⟨λu H=>?_,λh=>?_,λZ u z H m p=>?_,λe=>ak e (N 120 (by kernel_rfl))⟩
 ·obtain rfl:=aj (ag f H);exact⟨v.trans (congrArg some j.symm),s,a,.fw b (k.imp_right λh=>h s a) (N 395 (by kernel_rfl)) (N 426 (by kernel_rfl))⟩
 ·exact ft (ag g (GW (by kernel_rfl) h))
 ·obtain rfl:=aj (ag f H);obtain rfl:=aj (ag a m);rw[p]at b;exact ft b
def bM{P:Nat->R->Nat->Prop}{d0:Nat}(b:P 0 c d0)(h:∀(i:Nat) (r:R) d,l[i]?=some r->ds[i]?=some d->P (i+1) r d):∀(i:Nat) (r:R) d,(c::l)[i]?=some r->(d0::ds)[i]?=some d->P i r d:=λi r d H a=>by
 cases i with
 |zero=>obtain rfl:=aj H;obtain rfl:=aj a;exact b
 |succ i=>exact h i r d H a
def all_nil{P:Nat->R->Nat->Prop}:∀(i:Nat) (r:R) d,([]:List R)[i]?=some r->ds[i]?=some d->P i r d:=λZ Z Z h=>nn h
def hU{P:R->Prop}(h:P a):∀r∈[a],P r:=λZ H=>rX (d5 H) h
def cK{P:R->Prop}(h:P a)(k:∀r∈l,P r):∀r∈a::l,P r:=λr H=>(hH H).elim (λe=>e▸h) (k r)
def zT(h:BH c D p (.jj t))(H:oN c D t)(a:p<t\/∀s,c.rows[t]?=some s->s.ty=18):BK c D p (.jj t):=ni h rfl (hU (bW rfl)) (bM (rI (h.r 0 _ rfl) rfl H rfl a rfl) all_nil)
def Z1(h:BH c D p (.bb k a t))(H:k<c.ns)(b:oN c D t)(d:p+1<t):BK c D p (.bb k a t):=ni h rfl (cK (f7 H) (hU (bW rfl))) (bM (gI rfl) (bM (rI (h.r 1 _ rfl) rfl b rfl (.inl d) rfl) all_nil))
def Z2(h:BH c D p (.pb v a t))(H:oN c D t)(b:p+1<t):BK c D p (.pb v a t):=ni h rfl (cK (bW rfl) (hU (bW rfl))) (bM (gI rfl) (bM (rI (h.r 1 _ rfl) rfl H rfl (.inl b) rfl) all_nil))
def Z3(h:BH c D p (.hd k t))(H:k<c.ns)(a:oN c D t)(b:p+1<t):BK c D p (.hd k t):=ni h rfl (cK (f7 H) (cK (bW rfl) (cK (bW rfl) (hU (iB H))))) (bM (gI rfl) (bM (rI (h.r 1 _ rfl) rfl a rfl (.inl b) rfl) (bM (gI rfl) (bM (gI rfl) all_nil))))
def wM(H:c.rows[t]?=some x)(f:D t=some b)(a:r.o.bo=some t)(g:d-r.o.ec.1+r.o.ec.2=b)(j:TG E0 r.ty x.ty q t)(k:aw [272,298,304,331] r.ty=true->∃Q i,q=Q+i/\0<i/\i<5/\N6 c Q)(m:r.ty=235->x.ty=304->N6 c q)(h:r.ty≠120):RT c D q r d:=
 ⟨λu h=>by obtain rfl:=aj (ag a h);exact⟨f.trans (congrArg some g.symm),x,H,j⟩,k,λe u z h n p=>by obtain rfl:=aj (ag a h);obtain rfl:=aj (ag H n);exact m e p,λe=>ak e h⟩
def Z4(h:BH c D p (.o8 k j))(H:k<c.ns)(a:j<c.ns):BK c D p (.o8 k j):=
 ni h rfl (cK (f7 H) (cK (bW rfl) (cK (bW rfl) (cK (bW rfl) (cK (bW rfl) (hU (iB a)))))))<|
 bM (gI rfl)<|
 bM (wM (h.r 4 _ rfl) (h.d 4 _ rfl) rfl rfl ⟨.inl (by kernel_rfl),.inl (Nat.add_lt_add_left (by decide) p),λZ=>⟨rfl,rfl⟩,λe=>eD e (by kernel_rfl)⟩ (λh=>ft h) (λe=>eD e (by kernel_rfl)) (λe=>eD e (by kernel_rfl)))<|
 bM (gI rfl)<|
 bM (wM (h.r 5 _ rfl) (h.d 5 _ rfl) rfl rfl ⟨.inl (by kernel_rfl),.inl (Nat.add_lt_add_left (by decide) p),λe=>eD e (by kernel_rfl),λZ=>rfl⟩ (λh=>ft h) (λe=>eD e (by kernel_rfl)) (λe=>eD e (by kernel_rfl)))<|
 bM (gI rfl)<|
 bM (gI rfl) all_nil
def Z5(h:BH c D p (.n6 k a t))(H:k<c.ns)(b:oN c D t)(f:p+5<t):BK c D p (.n6 k a t):=by
 have N:N6 c (p+1):=⟨⟨_,h.r 1 _ rfl,rfl,rfl⟩,⟨_,h.r 2 _ rfl,rfl,rfl⟩,⟨_,h.r 3 _ rfl,rfl,rfl⟩,⟨_,h.r 4 _ rfl,rfl,rfl⟩,_,h.r 5 _ rfl,rfl⟩;obtain⟨s,E,g,i⟩:=b
 exact ni h rfl (cK (f7 H) (cK (bW rfl) (cK (bW rfl) (cK (bW rfl) (cK (bW rfl) (hU (bW rfl)))))))<|
  bM (gI rfl)<|
  bM (wM (h.r 4 _ rfl) (h.d 4 _ rfl) rfl rfl ⟨.inr (by kernel_rfl),.inl (Nat.add_lt_add_left (by decide) p),λe=>eD e (by kernel_rfl),λe=>eD e (by kernel_rfl)⟩ (λh=>ft h) (λZ Z=>N) (λe=>eD e (by kernel_rfl)))<|
  bM ⟨λZ h=>nn h,λZ=>⟨_,1,rfl,by decide,by decide,N⟩,λe=>eD e (by kernel_rfl),λe=>eD e (by kernel_rfl)⟩<|
  bM (wM (h.r 5 _ rfl) (h.d 5 _ rfl) rfl rfl ⟨.inr (by kernel_rfl),.inl (Nat.add_lt_add_left (by decide) p),λe=>eD e (by kernel_rfl),λe=>eD e (by kernel_rfl)⟩ (λZ=>⟨_,2,rfl,by decide,by decide,N⟩) (λe=>eD e (by kernel_rfl)) (λe=>eD e (by kernel_rfl)))<|
  bM ⟨λZ h=>nn h,λZ=>⟨_,3,rfl,by decide,by decide,N⟩,λe=>eD e (by kernel_rfl),λe=>eD e (by kernel_rfl)⟩<|
  bM (wM E i rfl rfl (.fw g (.inl f) (by show 331≠395;decide) (by show 331≠426;decide)) (λZ=>⟨_,4,rfl,by decide,by decide,N⟩) (λe=>eD e (by kernel_rfl)) (λe=>eD e (by kernel_rfl))) all_nil
end
section
variable{c:PC}{r:R}{cs:List Ct}
def BH.ent(h:BH c D p b)(e:b.rows p=r::l)(E:b.p8=0::ds)(H:aw c3 r.ty=true):oN c D p:=⟨r,h.r 0 r (rX e rfl),H,h.d 0 0 (rX E rfl)⟩
def BE(c:PC)(D:Nat->Option Nat)(p:Nat)(b:cZ):Prop:=oN c D p/\BK c D p b
def SG.bk{os:List O}(b:SG os)(h:BH c D p (.st os))(H:2<=c.ns):BE c D p (.st os):=by
 cases b with
 |note k a=>exact⟨h.ent rfl rfl rfl,fM h rfl rfl (cK (bW rfl) (cK (f7 (ln2 9377898436846865 rfl H a)) (cK (bW rfl) (hU (bW rfl)))))⟩
 |set x k _ a=>exact⟨h.ent rfl rfl rfl,fM h rfl rfl (cK (bW rfl) (hU (iB (ln2 9377898436846865 rfl H a))))⟩
 |Xj=>exact⟨h.ent rfl rfl rfl,fM h rfl rfl (cK (f7 (et 352473907473 rfl H)) (cK (f7 (H)) (cK (bW rfl) (cK (iB (H)) (hU (iB (et 352473907473 rfl H)))))))⟩
def TA(h:aw RY (⟨o,9⟩:R).ty=true)(H:c.rows[q]?=some ⟨o,9⟩)(a:c.rows[q+1]?=some ⟨.pop,10⟩):qF c q:=⟨⟨_,H,h⟩,_,a,rfl⟩
def TB(H:r.ty=120)(a:r.o.bo=none)(b:qF c (q+1)\/(Eo c (q+1) 137/\qF c (q+2))):RT c D q r d:=⟨λZ h=>nn (ag a h),λh=>by rw[H]at h;exact ft h,λe=>eD (ag H e) (by kernel_rfl),λZ=>b⟩
def GX(H:aw RY (⟨o,9⟩:R).ty=true)(a:wL [⟨.push x,6⟩,⟨.dup,7⟩,⟨o,9⟩,⟨.pop,10⟩] (wJ 0 [.push x,.dup,o,.pop])=true)(b:GV ⟨o,9⟩=true)(d:B_ c.ns o)(h:BH c D p (.tg [⟨.push x,6⟩,⟨.dup,7⟩,⟨o,9⟩,⟨.pop,10⟩])):BE c D p (.tg [⟨.push x,6⟩,⟨.dup,7⟩,⟨o,9⟩,⟨.pop,10⟩]):=
 ⟨h.ent rfl rfl rfl,ni h a (cK (bW rfl) (cK (bW rfl) (cK d (hU (bW rfl)))))<|
  bM (gI rfl)<|
  bM (TB rfl rfl (.inl (TA H (h.r 2 _ rfl) (h.r 3 _ rfl))))<|
  bM (gI b)<|
  bM (gI rfl) all_nil⟩
def ST.bk{rs:List R}(d:ST rs)(h:BH c D p (.tg rs))(H:2<=c.ns):BE c D p (.tg rs):=by
 cases d with
 |gone o b=>
  obtain⟨x,_,rfl⟩|rfl|⟨i,a,rfl⟩|rfl:=b
  ·exact⟨h.ent rfl rfl rfl,fM h rfl rfl (cK (bW rfl) (hU (bW rfl)))⟩
  ·exact⟨h.ent rfl rfl rfl,fM h rfl rfl (cK (bW rfl) (hU (bW rfl)))⟩
  ·exact⟨h.ent rfl rfl rfl,fM h rfl rfl (cK (f7 (ln2 9377898436846865 rfl H a)) (hU (bW rfl)))⟩
  ·exact⟨h.ent rfl rfl rfl,fM h rfl rfl (cK (bW rfl) (hU (bW rfl)))⟩
 |dup x o _ b=>
  obtain⟨i,a,rfl⟩|rfl:=b
  ·exact GX rfl rfl rfl (iB (ln2 9377898436846865 rfl H a)) h
  ·exact GX rfl rfl rfl (bW rfl) h
 |Xk=>exact⟨h.ent rfl rfl rfl,fM h rfl rfl (cK (f7 (et 352473907473 rfl H)) (cK (f7 (H)) (cK (bW rfl) (cK (bW rfl) (cK (iB (H)) (hU (iB (et 352473907473 rfl H))))))))⟩
 |glob i a=>
  exact⟨h.ent rfl rfl rfl,ni h rfl (cK (f7 (ln2 9377898436846865 rfl H a)) (cK (bW rfl) (cK (bW rfl) (cK (bW rfl) (hU (bW rfl))))))<|
   bM (gI rfl)<|
   bM (TB rfl rfl (.inr ⟨⟨_,h.r 2 _ rfl,rfl⟩,TA rfl (h.r 3 _ rfl) (h.r 4 _ rfl)⟩))<|
   bM (gI rfl)<|
   bM (gI rfl)<|
   bM (gI rfl) all_nil⟩
 |i9=>exact⟨h.ent rfl rfl rfl,fM h rfl rfl (cK (bW rfl) (hU (bW rfl)))⟩
structure PH(c:PC)(D:Nat->Option Nat)(p k k':Nat)(bs:List cZ):Prop where
 r:SF (c.rows[·]?) p (flat p bs)
 d:SF D p (eI bs)
 e:oN c D (p+aI bs)
 hk:2<=k
 hn:k'<=c.ns
structure PR(c:PC)(D:Nat->Option Nat)(p:Nat)(bs:List cZ)(cs:List Ct):Prop where
 e:oN c D p
 q:∀q,p<=q->q<p+aI bs->RQ c D q
 h:∀x∈cs,ZZ c D x.target
def eK(h:SF (c.rows[·]?) p (flat p (b::bs))):SF (c.rows[·]?) p (b.rows p)/\SF (c.rows[·]?) (p+b.len) (flat (p+b.len) bs):=by
 have:=SF.app h;rwa[cZ.kP]at this
def eZ(h:SF D p (eI (b::bs))):SF D p b.p8/\SF D (p+b.len) (eI bs):=by
 have:=SF.app h;rwa[yr]at this
def jV{a d}(h:SF (c.rows[·]?) p (flat p (a++d))):SF (c.rows[·]?) p (flat p a)/\SF (c.rows[·]?) (p+aI a) (flat (p+aI a) d):=by
 rw[kH]at h;have:=h.app;rwa[o6]at this
def kM{a d}(h:SF D p (eI (a++d))):SF D p (eI a)/\SF D (p+aI a) (eI d):=by
 rw[Oi]at h;have:=h.app;rwa[wK]at this
def wN:p+aI (b::bs)=p+b.len+aI bs:=by rw[aI,bS]
def gX{b e:Nat}(H:∀q,a<=q->q<b->RQ c D q)(d:∀q,b<=q->q<e->RQ c D q):∀q,a<=q->q<e->RQ c D q:=λq f g=>(Nat.lt_or_ge q b).elim (H q f) λh=>d q h g
def GY(e:Ask A)(h:BH c D p (A t))(d:2<=c.ns)(a:oN c D t)(H:p+(A 0).len<=t):BE c D p (A t):=by
 cases e with
 |pb x s _=>have H:=H;exact⟨h.ent rfl rfl rfl,Z2 h a H⟩
 |bb i s b=>have H:=H;exact⟨h.ent rfl rfl rfl,Z1 h (i7 b d) a H⟩
 |n6 i s b=>have H:=H;exact⟨h.ent rfl rfl rfl,Z5 h (i7 b d) a H⟩
def zU(h:BE c D p b):PR c D p [b] []:=⟨h.1,λq a H=>h.2 q a (by rw[wN]at H;exact H),λZ h=>ak h d6⟩
def EF(a:je p bs)(h:PH c D p k k' bs)(s:k=k'):PR c D p bs []:=by
 have b:2<=c.ns:=by have:=h.hk;have:=h.hn;lia
 cases a with
 |st os a=>exact zU (a.bk ⟨(eK h.r).1,(eZ h.d).1,h.e.nx⟩ b)
 |tg rs a=>exact zU (a.bk ⟨(eK h.r).1,(eZ h.d).1,h.e.nx⟩ b)
 |w6=>
  have H:BH c D p (.jj (p+1)):=⟨(eK h.r).1,(eZ h.d).1,h.e.nx⟩;exact zU ⟨H.ent rfl rfl rfl,zT H h.e (.inl (ba p))⟩
 |w7=>
  obtain⟨g,r2⟩:=eK h.r;obtain⟨l,m⟩:=eZ h.d;have f:=ST.i9.bk ⟨(eK r2).1,(eZ m).1,h.e.nx⟩ b;have H:BH c D p (.jj (p+3)):=⟨g,l,f.1.nx⟩;exact⟨H.ent rfl rfl rfl,gX (zT H h.e (.inl (bU (Nat.succ_pos _)))) f.2,λZ h=>ak h d6⟩
 |w8 i j n o=>
  have H:BH c D p (.o8 i j):=⟨(eK h.r).1,(eZ h.d).1,h.e.nx⟩;exact zU ⟨H.ent rfl rfl rfl,Z4 H (i7 n b) (i7 o b)⟩
def GS(c:PC)(D:Nat->Option Nat)(p k:Nat)(b:List cZ)(cs:List Ct)(a:Nat):Prop:=PH c D p k a b->PR c D p b cs
def Se(a:Ask A)(m:Piece d (p+(A 0).len) k bs cs k')(f:t=p+(A 0).len+aI bs)(n:GS c D (p+(A 0).len) k bs cs k'):GS c D p k (A t::bs) cs k':=λh=>by
 have a1:=(gH a t).1;obtain⟨o,s,H,g,j⟩:=h;obtain⟨u,r2⟩:=eK o;obtain⟨v,l⟩:=eZ s;have H:=a1▸wN▸H;rw[a1]at r2 l;have i:=n ⟨r2,l,H,g,j⟩;have b:=GY a ⟨u,v,rX a1 (i.e.nx)⟩ (bX 0x571162111761152110 rfl (hG m).1 g j) (f▸H) (Nat.le.intro (id (Eq.symm f)));refine⟨b.1,?_,i.h⟩;exact rX wN (rX a1 (gX (by have:=b.2;unfold BK at this;rwa[a1]at this) i.q))
def Sf{A:Nat->cZ}{q e j k2:Nat}{b1 b2:List cZ}{c1 c2:List Ct}(y:Ask A)(f:Piece d (p+(A 0).len) k b1 c1 j)(g:q=p+(A 0).len+aI b1)(i:Piece d (q+1) j b2 c2 k2)(a:e=q+1+aI b2)(o:GS c D (p+(A 0).len) k b1 c1 j)(s:GS c D (q+1) j b2 c2 k2):GS c D p k (A (q+1)::(b1++.jj e::b2)) (c1++c2) k2:=λh=>by
 refine I λB=>?_;obtain⟨a1,_,_⟩:=gH y (q+1);obtain⟨E,G,t,u,v⟩:=h;obtain⟨L,r2⟩:=eK E;obtain⟨N,l⟩:=eZ G;have z:p+aI (A (q+1)::(b1++.jj e::b2))=e:=by simp only[aI,bQ,a1];exact G0 0x811a0091476500a149811070605012 rfl g a
 rw[z]at t;rw[a1]at r2 l;obtain⟨r2,r3⟩:=jV r2;obtain⟨l,m⟩:=kM l;rw[<-g]at r3 m;obtain⟨r3,r4⟩:=eK r3;obtain⟨m,P⟩:=eZ m;have n:=s ⟨r4,P,by refine rX a.symm ?_;exact t,ln2 0x62111561152110 rfl (hG f).1 u,v⟩;have H:BH c D q (.jj e):=⟨r3,m,n.e.nx⟩;have w:=o ⟨r2,l,by refine rX g.symm ?_;exact(H.ent rfl rfl rfl),u,bX 0x671175116510 rfl (hG i).1 v⟩;have b:=GY y ⟨L,N,rX a1 (w.e.nx)⟩ (gf 0x5811621118711761152110 rfl (hG f).1 (hG i).1 u v) n.e (gf 0x86500714117065010 rfl g);refine B (⟨b.1,?_,λx C=>(iZ C).elim (w.h x) (n.h x)⟩);exact rX z (gX (by have:=b.2;unfold BK at this;rwa[a1]at this) (gX w.q (rX g.symm (gX (zT H t (.inl (bX 0x7115006146511 rfl a))) (rX a (n.q))))))
def Ol(l:Piece d (p+6) (k+1) bs cs k')(H:e=p+6+aI bs+1)(t:GS c D (p+6) (k+1) bs cs k'):GS c D p k (.st [.push .tt,.a8 k]::.hd k e::(bs++[.jj (p+2)])) cs k':=λh=>by
 refine I λu=>?_;obtain⟨w,x,a,y,b⟩:=h;obtain⟨z,r2⟩:=eK w;obtain⟨A,f⟩:=eZ x;obtain⟨r2,r3⟩:=eK r2;obtain⟨f,g⟩:=eZ f;obtain⟨r3,r4⟩:=jV r3;obtain⟨g,B⟩:=kM g;have m:p+aI (.st [.push .tt,.a8 k]::.hd k e::(bs++[.jj (p+2)]))=e:=by simp only[aI,bQ];exact bX 0x116615000714701110604101111010005012 rfl H
 have a:=m▸a;have n:BH c D (p+6+aI bs) (.jj (p+2)):=⟨(eK r4).1,(eZ B).1,rX (H.symm) (a.nx)⟩;have i:=t ⟨r3,g,n.ent rfl rfl rfl,cb y,b⟩;have j:BH c D (p+2) (.hd k e):=⟨r2,f,i.e.nx⟩;have E:=j.ent rfl rfl rfl;have o:BH c D p (.st [.push .tt,.a8 k]):=⟨z,A,E.nx⟩;refine u (⟨o.ent rfl rfl rfl,?_,i.h⟩);refine rX m (rX H ?_);exact gX (fM o rfl rfl (cK (bW rfl) (hU (iB (i7 (hG l).1 b))))) (gX (Z3 j (i7 (hG l).1 b) a (bX 0x1176150006146112150011 rfl H)) (gX i.q (zT n E (.inr λs v=>by obtain rfl:=aj (ag (j.r 0 _ rfl) v);rfl))))
def Om(hh:Hand k h)(H:BH c D p (.st h))(b:2<=c.ns)(a:k<c.ns):ZZ c D p/\BK c D p (.st h):=by
 cases hh with
 |tv j e=>exact⟨⟨_,H.r 0 _ rfl,rfl,H.d 0 _ rfl⟩,fM H rfl rfl (cK (iB a) (cK (bW rfl) (cK (f7 (ln2 9377898436846865 rfl b e)) (cK (bW rfl) (cK (bW rfl) (cK (f7 a) (cK (bW rfl) (hU (iB (et 352473907473 rfl b))))))))))⟩
 |Xl j e=>exact⟨⟨_,H.r 0 _ rfl,rfl,H.d 0 _ rfl⟩,fM H rfl rfl (cK (iB a) (cK (bW rfl) (cK (f7 (ln2 9377898436846865 rfl b e)) (cK (bW rfl) (cK (bW rfl) (cK (f7 a) (hU (bW rfl))))))))⟩
def EG{r:Bool}(v:Piece d p (k+1) bs cs k')(L:vr bm)(l:q=p+aI (bs++bm))(hh:Hand k h)(b:e=q+1+h.length)(N:GS c D p (k+1) bs cs k'):GS c D p k (bs++bm++[.jj e,.st h]) (cs++[⟨r,p,q,q+1⟩]) k':=λH=>by
 refine I λP=>?_;obtain⟨T,V,t,w,u⟩:=H;obtain⟨y,r2⟩:=jV T;obtain⟨z,g⟩:=kM V;have Y:=(jV y).1;have d0:=(kM z).1;rw[<-l]at r2 g;obtain⟨r2,r3⟩:=eK r2;obtain⟨g,W⟩:=eZ g;have B:p+aI (bs++bm++[.jj e,.st h])=e:=by rw[bQ];exact lS 0x71190081465091480170110605012 rfl l b
 rw[B]at t;have H3:BH c D (q+1) (.st h):=⟨(eK r3).1,(eZ W).1,rX (b.symm) (t.nx)⟩;obtain⟨b3,b4⟩:=Om hh H3 (bX 0x571162111711601152110 rfl (hG v).1 w u) (bX 0x671171150116511 rfl (hG v).1 u);obtain⟨s3,G,A,X⟩:=b3;have a:=r2 0 _ rfl;have E:oN c D q:=⟨_,a,rfl,g 0 _ rfl⟩
 have bj:∀Q,q<=Q->Q<q+1->RQ c D Q:=λQ n o=>by
  obtain rfl:Q=q:=by exact Nat.eq_of_le_of_lt_succ n o
  refine⟨_,0,a,g 0 _ rfl,⟨rfl,di,λh=>tf h,λs S=>?_⟩,bW rfl,rI a rfl t rfl (.inl (bX 0x7115006146511 rfl b)) rfl⟩;obtain rfl:=aj (ag G S);refine rX A ?_;kernel_rfl
 have f:p+aI bs+aI bm=q:=by refine rX l ?_;rw[bQ];exact bS p (aI bs) (aI bm)
 have m:oN c D (p+aI bs)/\∀Q,p+aI bs<=Q->Q<q->RQ c D Q:=by
  cases L with
  |none=>
   have e0:=f;exact rX e0 (⟨E,λQ n o=>gY (ln2 0x56126511011110 rfl n o)⟩)
  |some x j=>
   have C:BH c D (p+aI bs) (.st [.self,.push x,.send true,.pop]):=⟨(eK ((jV y).2)).1,(eZ ((kM z).2)).1,rX (f) (E.nx)⟩;refine⟨C.ent rfl rfl rfl,?_⟩;exact rX f.symm (fM C rfl rfl (cK (bW rfl) (cK (bW rfl) (cK (bW rfl) (hU (bW rfl))))))
 have i:=N ⟨Y,d0,m.1,cb w,u⟩;refine P (⟨i.e,?_,λx j=>(iZ j).elim (i.h x) λj=>rX (d5 j) (⟨s3,G,A,X⟩)⟩);exact rX B (rX b (gX i.q (gX m.2 (gX bj b4))))
def th(h:Piece d p k b cs f):GS c D p k b cs f:=by
 induction h with
 |nil d p k=>exact λh=>⟨h.e,λq s u=>ak u (Nat.not_lt.2 s),λZ h=>ak h d6⟩
 |simple d p k b v=>exact λh=>EF v h rfl
 |if1 d p k A t b cs f g H w i=>exact Se g H w i
 |ua d p k A q e b1 b2 c1 c2 y k2 g j l m a n o=>exact Sf g j l m a n o
 |loop d p k e b cs f H a i=>exact Ol H a i
 |eO d p k r q e b B h cs f z H x l hh a i=>exact EG H x l hh a i
end
section
variable{c:PC}{cs:List Ct}
def cw(p:Nat)(b:List cZ):Nat:=(dq (flat p b)).countP (aw jv)
def bw(p:Nat)(b:cZ):Nat:=(dq (b.rows p)).countP (aw jv)
def lA:cw p (b::bs)=bw p b+cw (p+b.len) bs:=by unfold cw bw;rw[flC,mD,countP_append]
def pE:cw p (a++e)=cw p a+cw (p+aI a) e:=by unfold cw;rw[kH,mD,countP_append]
def Sg:cw p []=0:=rfl
def GZ(h:Ask A):bw p (A t)=1:=by cases h<;>rfl
def Z6{os}(h:SG os):bw p (.st os)=0:=by cases h<;>rfl
def Z8{rs}(h:ST rs):bw p (.tg rs)=0:=by
 cases h with
 |gone o H=>obtain⟨x,_,rfl⟩|rfl|⟨i,_,rfl⟩|rfl:=H<;>rfl
 |dup x o _ H=>obtain⟨i,_,rfl⟩|rfl:=H<;>rfl
 |_=>rfl
def wO(h:Piece d p k b cs a):cw p b+cs.length+2<=3*2^d:=by
 induction h with
 |nil d p k=>have:=Nat.one_le_two_pow (n:=d);refine rX Sg ?_;exact et 0x511215332101010010 rfl this
 |simple d p k b w=>
  have:cw p b<=1:=by
   cases w with
   |st os h=>exact rX lA (rX (Z6 h) aZ)
   |tg rs h=>exact rX lA (rX (Z8 h) aZ)
   |w6=>exact Nat.le_refl 1
   |w7=>exact Nat.le_refl 1
   |w8=>exact Nat.zero_le 1
  exact ln2 0x1151161131633210150010 rfl (Nat.one_le_two_pow) this
 |if1 d p k A t b cs a H j C i=>
  have a1:=(gH H t).1;refine rX lA ?_;refine rX (GZ H) ?_;refine rX a1 ?_;exact bX 0x733216500217243321651100010 rfl i
 |ua d p k A q e b1 b2 c1 c2 D k2 H x l y m f g=>
  obtain⟨a1,_,_⟩:=gH H (q+1);refine rX lA ?_;refine rX (GZ H) ?_;refine rX a1 ?_;refine rX pE ?_;refine rX lA ?_;refine rX l.symm ?_;refine rX (show bw q (.jj e)=1 from rfl) ?_;refine rX c9 ?_;have:cw (q+(cZ.jj e).len) b2=cw (q+1) b2:=rfl;exact G0 0xa613933218a00119332175001192433218706110501100010 rfl f g this
 |loop d p k e b cs a j m i=>
  refine rX lA ?_;refine rX lA ?_;refine rX pE ?_;refine rX (show bw p (.st [.push .tt,.a8 k])=0 from rfl) ?_;refine rX (show bw (p+(cZ.st [.push .tt,.a8 k]).len) (.hd k e)=1 from rfl) ?_;rw[Nat.pow_succ];have u:cw (p+(cZ.st [.push .tt,.a8 k]).len+(cZ.hd k e).len) b=cw (p+6) b:=rfl;have o:cw (p+(cZ.st [.push .tt,.a8 k]).len+(cZ.hd k e).len+aI b) [.jj (p+2)]=1:=rfl;exact lS 0x8113183321790011116139513824332176501100100010 rfl u o i (Nat.one_le_two_pow (n:=d))
 |eO d p k r q e b B h cs a E j z l hh m i=>
  have s:cw (p+aI b) B=0:=by cases z<;>rfl
  have v:cw (p+aI (b++B)) [.jj e,.st h]=1:=by cases hh<;>rfl
  refine rX pE ?_;refine rX pE ?_;refine rX s ?_;refine rX v ?_;refine rX c9 ?_;exact bX 0x733216500217243321110106011015000010 rfl i
def Si(k:∀(p:Nat) (r s:R),c.rows[p]?=some r->c.rows[p+1]?=some s->dO r.ty s.ty=true)(f:∀(p:Nat) (r:R),c.rows[p]?=some r->p+1=c.rows.length->dO r.ty 901=true):∀(n p:Nat) u,c.rows.length<=p+n->(∀s,c.rows[p]?=some s->dO u s.ty=true)->(p=c.rows.length->dO u 901=true)->p<=c.rows.length->ie u (dq (c.rows.drop p)):=by
 intro n;induction n with
 |zero=>
  intro p u d j g f;exact rX (drop_eq_nil_of_le d) (.nil _ (g (bJ (ln2 1695638800 rfl f) (ln2 94574306576 rfl d))))
 |succ n l=>
  intro p u d j g i;obtain H|a:=Nat.lt_or_ge p c.rows.length
  ·have b:=dv H;exact rX (drop_cons b) (.cons _ _ _ (j _ b) (l (p+1) _ (bX 0x117060511711600510 rfl d) (λs h=>k p _ s b h) (λe=>f p _ b e) H))
  ·exact rX (drop_eq_nil_of_le a) (.nil _ (g (bJ i a)))
structure Raw(c:PC)(D:Nat->Option Nat):Prop where
 q:∀q,q<c.rows.length->RQ c D q
 h:∀k∈c.ax,ZZ c D k.target
 s:∀s∈c.starts,oN c D s
 k:∀k∈c.ax,k.first<k.last/\k.last<=c.rows.length
 n:c.rows.length<=300
 kn:c.ax.length<=100
 s0:0∈c.starts
 two:∃s,NX c s
 sn:c.starts.length<=10
 e:∀(p:Nat) (r:R),c.rows[p]?=some r->p+1=c.rows.length->r.o=.leave
 ns:c.ns<=200
 run:∀s∈c.starts,Runs c 300 s (ql c.ns)
 w:cn (aw jv) c+c.ax.length<=20
def Raw.at(a:Raw c D)(h:c.rows[p]?=some r):∃d,RJ c D p r d:=by
 obtain⟨b,d,k⟩:=a.q p (cu h);obtain rfl:=aj (ag h k.1);exact⟨d,k⟩
def Raw.Z9(a:Raw c D)(h:c.rows[p]?=some r)(H:D p=some d):RJ c D p r d:=by
 obtain⟨b,k⟩:=a.at h;obtain rfl:=aj (ag H k.2.1);exact k
def wQ(h:c.rows[p]?=some r):p<c.rows.length:=(cu h)
def Raw.ok(a:Raw c D):Ok c where
 t r hr t ht:=by
  obtain⟨p,H⟩:=mem_iff_getElem?.1 hr;obtain⟨d,k⟩:=a.at H;obtain⟨_,s,h,_⟩:=k.2.2.2.2.1 t ht;exact wQ h
 k k hk:=⟨(a.k k hk).1,(a.k k hk).2,let⟨_,h,_⟩:=a.h k hk;wQ h⟩
 s s hs:=let⟨_,h,_⟩:=a.s s hs;wQ h
 n:=a.n
 kn:=a.kn
 sn:=a.sn
 s0 e:=by have:=a.s0;rw[e]at this;exact ak this d6
 e p r h1 h2:=rX (a.e p r h1 h2) rfl
def Raw.cons(a:Raw c D):Cons c D where
 start s hs:=let⟨_,_,_,h⟩:=a.s s hs;h
 low p d r h1 h2:=(a.Z9 h2 h1).2.2.1.2.1
 aM p d r q h1 h2 h3:=((a.Z9 h2 h1).2.2.2.2.1 q h3).1
 eR p d r h1 h2 h3:=(a.Z9 h2 h1).2.2.1.2.2.1 h3
 hand p d k _ hk _:=let⟨_,_,_,h⟩:=a.h k hk;h
def Raw.cl(a:Raw c D):Cl K0 E0 c where
 ty p r h:=let⟨_,k⟩:=a.at h;k.2.2.1.1
 ch:=by
  obtain⟨s,H,b,_⟩:=a.s 0 a.s0
  exact Si (λp r s H b=>let⟨_,k⟩:=a.at H;k.2.2.1.2.2.2 s b) (λp r h e=>by
   obtain⟨d,k⟩:=a.at h;have f:dY [13] r.ty=true:=bR (rX (a.e p r h e) rfl);have:=bO (bC (show cT (λa=>imp (dY [13] a) (dO a 901)) K0=true by kernel_rfl) k.2.2.1.1) f;exact this) c.rows.length 0 900 (bx (aD _).symm) (λS h=>by obtain rfl:=aj (ag H h);exact nh b (by kernel_rfl)) (λe=>by have:=wQ H;exact nh rfl rfl) aZ
 tg p r t s H b h3:=by
  obtain⟨d,k⟩:=a.at H;obtain⟨_,S,g,i⟩:=k.2.2.2.2.1 t b;obtain rfl:=aj (ag h3 g);exact i
 ca k f s h:=by obtain⟨S,H,b,_⟩:=a.h k f;obtain rfl:=aj (ag H h);exact b
 st x hx s h:=by obtain⟨S,H,b,_⟩:=a.s x hx;obtain rfl:=aj (ag H h);exact b
def IF{l:List Nat}(h:∀s∈l,∃r,f s=some r):∃rs:List Res,l.map f=rs.map some:=by
 induction l with
 |nil=>exact⟨[],rfl⟩
 |cons x l i=>
  obtain⟨rs,a⟩:=i λs H=>h s (fg H);obtain⟨r,b⟩:=h x eE;exact⟨r::rs,rX map_cons (rX map_cons (rX a (rX b rfl)))⟩
def Raw.plain(a:Raw c D):Plain c:=by
 obtain⟨rs,H⟩:=IF a.run
 have g:GG c.rows.length rs c:=⟨a.ok,λr f k i=>by
  obtain⟨p,b⟩:=mem_iff_getElem?.1 f;obtain⟨d,x⟩:=a.at b;exact x.2.2.2.1 k i,⟨D,a.cons⟩,a.ns,H,di⟩
 refine⟨⟨GG c.rows.length rs,rs,Nn _ _,g,λC G=>⟨G.so,G.cd,G.ns,G.run,G.len,?_⟩⟩,ID ⟨g,a.cl,⟨λp r h j=>let⟨_,k⟩:=a.at h;k.2.2.2.2.2.1 j,λp r t s h l m n o=>let⟨_,k⟩:=a.at h;k.2.2.2.2.2.2.1 l t s m n o⟩,λp r h e=>let⟨_,k⟩:=a.at h;k.2.2.2.2.2.2.2 e,a.w,a.two⟩⟩;obtain⟨_,_,_,b⟩:=kW G.ok;exact b
def yt(H:j<2)(h:Seg c p [.aL j,.leave]):GoodR c k bI 2 p:=λl b n a=>by
 refine I λd=>?_;obtain⟨e,h⟩:=h.hd;obtain⟨⟨r,f,g⟩,_⟩:=h.hd;obtain⟨x,i⟩:=a.2.1 j H;have m:act r.o (p+1+1) ⟨[.v x],l,b,n⟩=some (.stop (n,fF,x.rep)):=by exact rX g rfl
 exact d (.aL e i ⟨_,jL f m⟩)
def zV(ns:Nat)(h:2<=ns)(bI):jA ns 2 bI (List.replicate ns (.v .none)):=⟨length_replicate,λi H=>⟨.none,rX List.getElem?_replicate (rX (aO (i7 H h)) rfl)⟩,λi a b=>gY (et 0x2151252111011110 rfl a b)⟩
def ti(h:Piece d p k b cs a):cs.length+1<=2^d:=by
 induction h with
 |nil d=>exact Nat.one_le_two_pow
 |simple d=>exact Nat.one_le_two_pow
 |if1 d p k A t b cs a H h e i=>rw[Nat.pow_succ];exact ln2 0x6115011624115010 rfl i
 |ua d p k A q e b1 b2 c1 c2 j k2 H l E m o f g=>exact rX c9 (bX 0x7116011711501172411650010 rfl f g)
 |loop d p k e b cs a h e i=>rw[Nat.pow_succ];exact ln2 0x6115011624115010 rfl i
 |eO d p k r q e b B h cs a s u v w hh x i=>have:=Nat.one_le_two_pow (n:=d);exact rX c9 (ln2 0x6115021624111101050010 rfl i)
def rJ(h:d<=2):2^d<=4/\LL d<=100/\TT d<=48:=by
 have:=p_ (Nat.lt_succ_of_le h);obtain rfl|rfl|rfl:=this<;>exact⟨by decide,by decide,by decide⟩
noncomputable def kc(j:Nat):cZ:=.st [.aL j,.leave]
def DD(b:List cZ)(q:Nat):Option Nat:=(eI b++[0])[q]?
def EH(bs):SF (DD bs) 0 (eI bs):=λi x h=>by unfold DD;rw[aD];refine rX (List.getElem?_append_left (cu h)) ?_;exact h
def Sj(bs):DD bs (aI bs)=some 0:=by unfold DD;refine rX (List.getElem?_append_right (by rw[wK];exact di)) ?_;rw[wK,Nat.sub_self];rfl
abbrev rK(c:PC)(a:List cZ)(j:Nat):Prop:=c.rows=flat 0 (a++[kc j])/\j<2/\2<=c.ns/\c.ns<=200
def rK.sf(h:rK c bs j):SF (c.rows[·]?) 0 (flat 0 (bs++[kc j])):=λi x H=>by show c.rows[0+i]?=_;rw[aD];refine rX h.1 ?_;exact H
def rK.len(h:rK c bs j):c.rows.length=aI bs+2:=by refine rX h.1 ?_;rw[o6,bQ];rfl
def rK.fin(h:rK c bs j):oN c (DD (bs++[kc j])) (aI bs)/\∀q,aI bs<=q->q<aI bs+2->RQ c (DD (bs++[kc j])) q:=by
 have r:=(jV h.sf).2;obtain⟨_,e⟩:=kM (EH (bs++[kc j]));rw[aD]at r e
 have H:BH c (DD (bs++[kc j])) (aI bs) (kc j):=⟨(eK r).1,(eZ e).1,λs a=>by
  have:=wQ a;rw[h.len]at this;exact ak this (Nat.lt_irrefl _),by have:=Sj (bs++[kc j]);rw[bQ]at this;exact this⟩
 exact⟨H.ent rfl rfl rfl,fM H rfl rfl (cK (f7 (i7 h.2.1 h.2.2.1)) (hU (bW rfl)))⟩
def rK.last(h:rK c bs j):∀(p:Nat) (r:R),c.rows[p]?=some r->p+1=c.rows.length->r.o=.leave:=λp r H a=>by
 rw[h.len]at a;have b:=(jV h.sf).2;rw[aD]at b;have:c.rows[aI bs+1]?=some ⟨.leave,0⟩:=(eK b).1 1 _ rfl;rw[show p=aI bs+1 by exact Nat.add_right_cancel a,this]at H;obtain rfl:=aj H;rfl
def rK.seg(h:rK c bs j):Seg c 0 (bu 0 (bs++[kc j])):=λi x H=>by
 unfold bu at H;rw[hW]at H;obtain⟨r,a,b⟩:=Option.map_eq_some_iff.1 H;exact⟨r,by rw[aD];refine rX h.1 ?_;exact a,b⟩
def rK.w(h:rK c bs j):cn (aw jv) c=cw 0 bs:=by
 show(dq c.rows).countP _=_;refine rX h.1 ?_;show cw 0 (bs++[kc j])=_;exact rX pE rfl
def Oo(e:d<=2)(p:j<2)(a:Piece d 0 2 bs cs k):Plain ⟨flat 0 (bs++[kc j]),cs,[0],k⟩:=by
 have o:=(rJ e).1;have A:=jR a;have P:rK ⟨flat 0 (bs++[kc j]),cs,[0],k⟩ bs j:=⟨rfl,p,(hG a).1,by show k<=200;exact ln2 0x6210511416110c82510 rfl o (hG a).2⟩;have H:=P.len;obtain⟨u,v⟩:=P.fin;obtain⟨s1,s2⟩:=lz P.seg;rw[aD]at s2;obtain⟨y,r,z⟩:=th a ⟨(jV P.sf).1,(kM (EH (bs++[kc j]))).1,by rw[aD];exact u,Nat.le_refl 2,di⟩;rw[aD]at r;have g:=oM a 2 (λZ=>none) di ⟨Nat.le_refl 2,s1,λq Z Z t h=>h,by rw[aD];exact yt p (rH (eb s2).1),λq Z Z f x l b N Z t i=>nn (ag f i)⟩;refine Raw.plain ⟨λq f=>gX r v q aZ (rX H.symm f),z,λs m=>by refine rX (d5 m) ?_;exact y,λx n=>by have:=(gx a) x n;exact⟨this.2.1,by refine rX H ?_;exact ln2 0x60105122160510 rfl this.2.2.1⟩,by refine rX H ?_;exact ln2 0x6511064261112c2215010 rfl ((rJ e).2.1) A.1,by show cs.length<=100;exact ln2 0x6115011416110642510 rfl o (ti a),lB rfl,⟨0,λx n=>.inl (d5 n)⟩,(by decide:1<=10),P.last,P.2.2.2,λs m=>?_,?_⟩
 ·exact rX (d5 m) ((g _ (λZ=>.none) [] (zV k P.2.2.1 _)).mono (bt (bg ((rJ e).2.2) _) (a5 _ _)))
 ·refine rX P.w ?_;exact bX 0x7332165001141731014265010 rfl o (wO a)
def Oq{b1 b2:List cZ}{c1 c2:List Ct}(V:d<=2)(B:j<2)(H:Piece d 0 2 b1 c1 k)(a:Piece d (aI b1) k b2 c2 k'):Plain ⟨flat 0 (b1++b2++[kc j]),c1++c2,[0,aI b1],k'⟩:=by
 refine I λW=>?_;obtain⟨o,hL,C⟩:=rJ V;have r:=hG H;have g:=hG a;have hw:=wO H;have z:=wO a;have P:rK ⟨flat 0 (b1++b2++[kc j]),c1++c2,[0,aI b1],k'⟩ (b1++b2) j:=⟨rfl,B,(by show 2<=k';exact ln2 0x56116211152110 rfl r.1 g.1),by show k'<=200;exact bX 0x6705116210711416210c82510 rfl o r.2 g.2⟩;have e:=P.len;obtain⟨D,E⟩:=P.fin;rw[bQ]at D E e;obtain⟨S,s3⟩:=lz P.seg;obtain⟨s1,s2⟩:=lz S;rw[aD,bQ]at s3;rw[aD]at s2;obtain⟨r1,r2⟩:=jV (jV P.sf).1;obtain⟨e1,G⟩:=kM (kM (EH (b1++b2++[kc j]))).1;rw[aD]at r2 G;obtain⟨L,j2,j3⟩:=th a ⟨r2,G,D,r.1,di⟩;obtain⟨i1,Q,i3⟩:=th H ⟨r1,e1,by rw[aD];exact L,Nat.le_refl 2,g.1⟩;rw[aD]at Q;have N:∀q,aI b1<=q->c1.find? (·.on q)=none:=λq f=>find_none λc t=>by have:=(gx H) c t;exact λY=>gY (bX 0x761250107126511011110 rfl f this.2.2.1 Y.2)
 have A:∀q,q<aI b1->c2.find? (·.on q)=none:=λq f=>find_none λc t=>by have:=(gx a) c t;exact λY=>gY (bX 0x571176116512011110 rfl f this.1 Y.1)
 have T:GoodR ⟨flat 0 (b1++b2++[kc j]),c1++c2,[0,aI b1],k'⟩ 2 (λZ=>none) (2+TT d) (aI b1):=qI k λn Z=>oM a 2 n di ⟨r.1,s2,λq u Z v h=>(iY (N q u)).trans h,yt B (rH (eb s3).1),λq u Z f x l b X Z v i=>nn (ag ((iY (N q u)).trans f) i)⟩;have g1:=oM H (2+TT d) (λZ=>none) g.1 ⟨Nat.le_refl 2,s1,λq Z Z v h=>qJ h,by rw[aD];exact T,λq Z o f x l b X Z v i=>nn (ag ((iY f).trans (A q (ln2 6601449825553 rfl o))) i)⟩;have m:∀s∈[0,aI b1],s=0\/s=aI b1:=λs p=>(hH p).imp_right d5;refine W (Raw.plain ⟨λq f=>gX Q (gX j2 E) q aZ (rX e.symm f),λx y=>(iZ y).elim (i3 x) (j3 x),λs p=>by obtain rfl|rfl:=m s p;exact i1;exact L,λx y=>?_,by refine rX e ?_;exact bX 0x76117511064272112c221650010 rfl hL (jR H).1 (jR a).1,by show(c1++c2).length<=100;refine rX c9 ?_;exact bX 0x7116011711501141721064265010 rfl o (ti H) (ti a),eE,⟨aI b1,m⟩,(by decide:2<=10),P.last,P.2.2.2,λs p=>?_,?_⟩)
 ·refine rX e ?_;obtain h|h:=iZ y
  ·have:=(gx H) x h;exact⟨this.2.1,bX 0x6010512217600510 rfl this.2.2.1⟩
  ·have:=(gx a) x h;exact⟨this.2.1,bX 0x760512217600510 rfl this.2.2.1⟩
 ·obtain rfl|rfl:=m s p
  ·exact(g1 _ (λZ=>.none) [] (zV k' P.2.2.1 _)).mono (et 0x30252112c255210010 rfl C)
  ·exact(T _ (λZ=>.none) [] (zV k' P.2.2.1 _)).mono (bt (bg C _) (a5 _ _))
 ·refine rX P.w ?_;refine rX pE ?_;rw[aD];refine rX c9 ?_;exact lS 0x4196193321860011933217500110142870650010 rfl hw z o
def EI(h:Gen c B):Plain c:=by
 cases h with
 |one d k j B cs H a f g=>exact Oo H a g
 |two d k i j b1 b2 c1 c2 H a f b e=>exact Oq H a b e
end
end Mine
namespace Mine
open List PySem PySem.W PyProof.Rows PySem.Calls PySem.Challenge PySem.W.Fast
def Ou(s:SharedT):s.abs.heap.get?=Jy s:=by
 funext a
 unfold Jy;cases e:Nat.blt a s.n with
 |false=>exact abs_get_none λh=>by rw[show Nat.blt a s.n=true from Nat.ble_eq_true_of_le h]at e;cases e
 |true=>cases g:s.tree.get a with
  |none=>rfl
  |some o=>exact abs_get (aR e) g
def abi(w:World)(h:Heap):Prop:=∃g:Addr->Option Obj,Ah g=val w/\∀b o,g b=some o->h.get? b=some o
def Hk:Hook:=⟨_,λs=>Ah s.heap.get?,val,abi,λZ s e=>⟨s.heap.get?,e,λZ Z h=>h⟩,λZ Z Z ⟨g,e,k⟩k2=>⟨g,e,λb o h=>k2 b o (k b o h)⟩⟩
def Ov{tb}{p:Program}{w:World}{N:Nat}{s0 s1:Shared}(h0:fencedOpening tb p w N=some s0)(h3:(s0.heap.isNs mainGlobals&&s0.gens.size==0)=true)(hr:topRun tb p w s0.heap.objs.size (s0.heap.nsMap mainGlobals "__annotations__") N s0 (topStub p)=some s1)
  (h4:(staticsOk (importedModules p.main.body) s0.heap s1.heap&&namesBound p s1.heap&&gensDone s1&&laidKept s0.heap s1.heap)=true):openEnds tb p w N=some s1:=by
 unfold openEnds;rw[h0];show topFrom tb p w N s0=_;unfold topFrom;rw[h3,hr];show(match staticsOk (importedModules p.main.body) s0.heap s1.heap&&namesBound p s1.heap&&gensDone s1&&laidKept s0.heap s1.heap with|true=>_|false=>_:Option Shared)=_;rw[h4]
def Cc{w:World}{G:_}{V:_}(h:ux w=some ((true,true),G,V)):(openEnds treeTable pw w 12034).map (λs=>(openSeen jF xx (importedModules pw.main.body) Xt true s,Ah s.heap.get?))=some (G,V):=by
 rw[ux]at h;obtain⟨s,hs,he⟩:=Option.map_eq_some_iff.mp h;rw[<-te10156331382660048174,<-te6613529449190102663,<-te11892475500146522536,<-te14364793385576792824]at hs;have hr:=Ai _ _ _ _ hs;rw[<-te4187177175401517315,<-Ou]at he;obtain⟨h1,h2⟩:=Prod.mk.inj he;obtain⟨h3,h4⟩:=Prod.mk.inj h1;have hz:(S0 w).abs.heap.objs.size=(S0 w).n:=absHeap_size _ _ _;rw[Ov (ag (Xb w) (Jx w)) h3 (by rw[hz];exact hr) h4];exact congrArg some h2
def Z_:LeftO pw jF xx Xt Hk.obs Hk.val 12034:=
 byRow2 "special-get-raises" (λw=>Cc (Pd w)) (λw=>Cc (Pe w))
def Z':rw_nu0280_01.row.wellSaid=true:=(congrFun te17960256430627541270 _).trans (by kernel_rfl)
def abj:rw_nu0280_01.wellSaid=true:=by
 unfold OpenLaw.wellSaid;rw[Z'];kernel_rfl
def aaa{d Ia}(hd:defOf jF rw_nu0280_01.row.name=some (d,Ia))(hp:pw.theDef rw_nu0280_01.row.name=some (d.params,d.body,d.scope))(hk:kwWritten? d.params.kwonlyargs d.params.kw_defaults=some Ia)
 (h:WalkO jF xx (XL jF []) Hk.says rw_nu0280_01.row.toRowW d Ia λf vs=>PySem.call f vs):rw_nu0280_01.Holds:=
 holds_law abj λk1=>holds_open Z_ Hk.of Hk.keeps (λs e=>xl_of s (Bool.and_eq_true_iff.mp e).1) XL.keeps hd hp hk (λs e=>recFacts_of (Bool.and_eq_true_iff.mp e).2) (by rfl) k1 (by decide+kernel) ⟨rfl,rfl,rfl,rfl,rfl,by decide+kernel⟩ ⟨[.list []],by decide+kernel,by decide+kernel⟩ h
end Mine
namespace Mine
open List PySem PySem.W PyProof.Rows PySem.Calls PySem.Challenge
structure Ow(w:World)(K:Frag):Prop where
 ok:allI (qd K) 0 fns=true
 cls:allI (Af K) 0 jW=true
 glob:∀{p},p∈kf->Jv K p=true
 bi:∀{p},p∈qc->biB K p=true
 abk:nsIn K mainGlobals "law" =some (some (.ref (c5 74)))
 fns:∀{f},f<20->(Nat.blt f 8||Jw K f)=true
 hs:∀{p},p∈kf->Pb K p=keysOf w.params p.2
 fd:∀{f},f<75->rP K (Js f)=some (rQ f)
section
variable{w:World}{h:Heap}{K:Frag}{mg mb:Str->Option Value}{g:Addr->Option Obj}{S:aW}{W:Wd}
def EJ{l:List Addr}{a:Addr}{o:Obj}(h:l.all (λa=>(g a).isSome)=true)(e:List.lookup a (l.map λa=>(a,(g a).getD default))=some o):g a=some o:=by
 induction l with
 |nil=>exact nn e
 |cons b l i=>
  rw[map_cons,lookup_cons]at e;cases jF:a==b with
  |true=>
   rw[jF]at e;obtain rfl:=eq_of_beq jF
   exact(Option.isSome_iff_exists.1 (aA h).1).elim λx z=>by
    rw[z]at e⊢;exact e
  |false=>
   rw[jF]at e;exact i (aA h).2 e
def Ox(h:Pc.all (λa=>(g a).isSome)=true){h0:Heap}(k:∀b o,g b=some o->h0.get? b=some o):(fragOf g).In h0:=λZ Z e=>k _ _ (EJ h e)
def Oy(e:Ah g=val w):Pc.all (λa=>(g a).isSome)=true/\Ow w (fragOf g):=
 have h0:=aA (Prod.mk.inj e).1;have h2:=aA (aA h0.2).1;have h3:=aA h2.1;have h4:=aA h3.1
 ⟨h0.1,⟨(aA h4.1).1,(aA h4.1).2,λm=>all_eq_true.1 h4.2 _ m,λm=>all_eq_true.1 h3.2 _ m,eq_of_beq h2.2,λm=>all_eq_true.1 (aA h0.2).2 _ (mem_range.2 m),λm=>map_inj_left.1 (Prod.mk.inj (Prod.mk.inj e).2).1 _ m,λm=>map_inj_left.1 (Prod.mk.inj (Prod.mk.inj e).2).2 _ (mem_range.2 m)⟩⟩
theorem wR{α:Type}{x:Str}{v:α}:∀{l:List (Str×α)},fN l x=some v->(x,v)∈l
 |[],e=>nn e
 |k::l,e=>by
  replace e:(match seq k.1 x with|true=>some k.2|false=>fN l x)=some v:=e;cases jF:seq k.1 x with
  |true=>rw[jF]at e;exact mem_cons.2 (.inl (Prod.ext (seq_eq jF).symm (aj e).symm))
  |false=>rw[jF]at e;exact fg (wR e)
def aab{x:Str}{k:Value->Bool}(h:Ju K x k false=true):∃v,nsIn K mainGlobals x=some (some v)/\k v=true:=by
 unfold Ju at h;cases e:nsIn K mainGlobals x with
 |none=>rw[e]at h;exact ft h
 |some o=>
  cases o with
  |none=>rw[e]at h;exact ft h
  |some v=>rw[e]at h;exact⟨v,rfl,h⟩
def Oz{x:Str}{m:MV}{v:Value}(X:S.K.In S.h₀)(o:Over S W)(e:nsIn S.K mainGlobals x=some (some v))(hs:Pb S.K (x,m)=keysOf S.w.params m)(h:CN S.K m v=true):aF S W m v:=by
 unfold CN at h;cases jF:Jt m with
 |false=>rw[jF]at h;exact Gm X o m _ h
 |true=>
  rw[jF]at h;unfold Pb Ju at hs;rw[jF,e]at hs;exact(vv v).casesOn (motive:=λv Z=>i_ v false no no no (λa=>Xa S.K a m&&!(a==sysModules)) false=true->i_ v [] (λZ=>[]) (λZ=>[]) (λZ=>[]) (Ag S.K) []=keysOf S.w.params m->aF S W m v) (λh=>ft h) (λh=>ft h) (λh=>ft h) (λh=>ft h) (λh hs=>have h:=aA h;Rn X o (p4 h.2) hs h.1) (λk h=>ft (ag (k ..) h)) h hs
def aac(H:Ow w K)(X:K.In h)(hg:h.Ns mainGlobals mg)(hb:h.Ns builtinsNs mb)(hbo:∀x:Str,x≠ "__name__" ->mb x=bootBuiltins x):xf ⟨w,K,h⟩:=
 ⟨X,⟨mg,mb,hg,hb,λ{x mv} e=>have m:=wR e;have k:=aA (H.glob m);(aab k.2).elim λv z=>⟨p4 k.1,v,mg_of X hg z.1,λo=>Oz (S:=⟨w,K,h⟩) X o z.1 (H.hs m) z.2⟩,
  λ{x v} e=>
   have h1:=aA (H.bi e);have h2:=aA h1.1
   ⟨p4 (aA h2.1).1,ns_none_of X hg (eq_of_beq (aA h2.1).2),(hbo x (ne_of_beq_false (p4 h2.2))).trans (eq_of_beq h1.2)⟩⟩,
  λf h1 h2=>by
   have k:=M7 (H.fns (Nat.lt_succ_of_le h2)) (Bool.eq_false_iff.2 λjF=>ak (aR jF) (Nat.not_lt.2 h1));unfold Jw at k;cases e:K.lookup (c5 f)with
   |none=>rw[e]at k;exact ft k
   |some o=>rw[e]at k;exact⟨o,X _ _ e,eq_of_beq k⟩⟩
def ints_rep(h:IntsAre vs ns):aC S W (ns.map .int) vs:=by
 induction h with
 |nil=>exact rfl
 |cons n t h i=>exact .mk ri i
def aad{s:Shared}{fa l:Addr}{vs:List Value}{ns:List Int}(H:Ow w K)(hm:nu fns 40 74 [.aQ (ns.map .int)] [] (λv Z=>v=.bool true))(X:K.In s.heap)(hg:s.heap.Ns mainGlobals mg)(hb:s.heap.Ns builtinsNs mb)
  (hbo:∀x:Str,x≠ "__name__" ->mb x=bootBuiltins x)(lim:s.heap.NoLimit)(hmg:mg "law" =some (.ref fa))(hl:s.heap.get? l=some {cls:=.type "list",data:=.seq vs.toArray})(hi:IntsAre vs ns)(hn:ns.length<=63)
  (OA:∃o,s.heap.get? sysModules=some o):
  wpAny (model pw w) callerA (PySem.call (.ref fa) [.ref l]) (λv s'=>v= .bool true/\(∀b o,s.heap.get? b=some o->s'.heap.get? b=some o)/\Sh s s') (λZ Z=>False) s:=by
 have ok:=Rl ⟨H.fd,H.ok,X,lim⟩ (aac H X hg hb hbo) H.cls;cases ag (mg_of X hg H.abk) hmg;have R:Rel ⟨w,K,s.heap⟩ ⟨s.heap.get?,[]⟩ [] s.heap:=⟨id,id,rfl,λe=>nn e,nodup_nil,OA⟩;have rl:aF ⟨w,K,s.heap⟩ ⟨s.heap.get?,[]⟩ (.aQ (ns.map .int)) (.ref l):=Sq.mk (vs:=vs.toArray) (k:=0) hl (ints_rep hi) (by rw[cX];exact bt hn (by decide));exact((Y4 ok 40).1 (A:=callerA) ⟨rfl,by decide,by decide⟩ R (.one rl) hm).mono λjF=>jF.casesOn λf R r e=>⟨by subst e;exact r.symm,λb o e=>f.keep e d6 d6,f.toSh⟩
end
def EK{P:Params}{h:Heap}{l:Addr}{vs:List Value}{ns:List Int}(hL:h.IsList l vs.toArray)(w:Well P h (.ref l) (ofPy (PyData.list (ns.map PyData.int)))):h.get? l=some {cls:=.type "list",data:=.seq vs.toArray}:=by
 have w':∃xs,Well P h (.ref l) (.list xs):=by
  rw[show ofPy (PyData.list (ns.map PyData.int))= .list _ from by unfold ofPy;rfl]at w;exact⟨_,w⟩
 obtain⟨xs,w'⟩:=w';cases w' with
 |list ho _=>
  obtain⟨o,ho',hc,n,hd⟩:=hL;rw[ho]at ho';cases ho';dsimp only at hd;injection hd with h1 h2
  rw[ho,h1]
set_option maxHeartbeats 4000000
set_option tactic.hygienic true in
def Sk(abl:∀jS:List Int,jS.length<=63->nu fns 40 74 [.aQ (jS.map .int)] [] (λv Z=>v=.bool true)):rw_nu0280_01.Holds:=by
 refine aaa (by rfl) (by rfl) (by rfl) ?_
 w_strict (
  intro w b_ hS mg mb G Y fa o pm cd doc dV kV ho hd hcd hD hmg hg args vals as abm abn hrd hwl hlo;obtain⟨gg,eg,kg⟩:=Y;obtain⟨h0,H⟩:=Oy eg;have KX:=Ox h0 kg;have T:=G.T;
  wrow_args abm abn hrd hwl hlo;
  clear hD hcd hd;rename_i ns _ _ _ _ _ _ _ l vs _ hL _ w1 _ hI _ hlen _;have hl:hS.heap.get? l=some {cls:=.type "list",data:=.seq vs.toArray}:=EK hL w1;have OB:ns.length<=63:=(by omega);
  have OA:∃o,hS.heap.get? sysModules=some o:=(by
   obtain⟨m,hm,_⟩:=(T.seer (by decide+kernel)).mods;obtain⟨o,_,_,ho,_⟩:=hm;exact⟨o,ho⟩);
  have w:=aad (w:=w) H (abl ns OB) KX T.g T.b T.builtins T.nolimit hmg hl hI OB OA;refine wpAny_mono w (λv s' jF=>?_) (λZ Z f=>f.elim);obtain⟨rfl,hk,sh⟩:=jF;refine⟨.inl ⟨_,.bool true,[],rfl,λZ=>rfl,.bool true,?_,?_⟩,.of_keep hk,sh.os,.of_eq (sh.gens.trans hg)⟩)
 ·first|rfl|kernel_rfl
 ·exact λZ=>⟨nodup_nil,λZ h=>by cases h⟩
end Mine
theorem PySem.Challenge.cw_nu0280_01_holds : PySem.Challenge.rw_nu0280_01.Holds :=
 Mine.Sk λZ Z=>Mine.KL (d:=27) (λZ Z h=>Mine.EI h) rfl
