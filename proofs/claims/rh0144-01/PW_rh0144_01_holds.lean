import PyProof.Rows.All
import Wide.All
import OpenK.AllK
import Wide.FinOn
import Lean
import PySem.Challenge.RW_rh0144_01
set_option Elab.async false
set_option bootstrap.genMatcherCode false
set_option genInjectivity false
set_option genSizeOf false
set_option genCtorIdx false
set_option autoImplicit false
set_option maxRecDepth 1000000
set_option linter.all false
noncomputable section
namespace au
section
def aa:=@List.length_append
def af:=@List.mem_cons_of_mem
def aj:=@List.mem_cons_self
def ak:=@Bool.and_eq_true_iff
def ao:=@List.length_map
def aq:=@Option.some.inj
def az:=@List.append_nil
def aA:=@Nat.le_trans
def aB:=@List.mem_singleton
def aC:=@Option.map_eq_some_iff
def aD:=@List.map_append
def aF:=@List.mem_cons
def aH:=@Nat.le_refl
def aJ:=@List.all_eq_true
def aK:=@List.append_assoc
def aL:=@List.getElem?_eq_some_iff
def aO:=@Bool.false_ne_true
noncomputable def aQ:=@List.casesOn
def aR:=@Nat.lt_of_lt_of_le
def aS:=@List.mem_append
def aV:=@List.getElem?_eq_none
def aY:=@Array.length_toList
def aZ:=@List.getElem?_append_left
def bg:=@Bool.and_eq_true
def bq:=@PySem.Heap.get?_push_size
def bu:=@List.getElem?_concat_length
def bw:=@List.mem_append_right
def bz:=@Option.isSome_iff_exists
def bB:=@Nat.lt_of_le_of_lt
def bC:=@Int.natCast_nonneg
def bD:=@Nat.lt_succ_self
def bF:=@List.mem_map
def bG:=@List.getElem?_set_ne
def bI:=@Nat.zero_le
def bJ:=@List.getElem?_set_self
def bK:=@List.find?_cons
def bL:=@Nat.le_succ
def bM:=@Nat.eq_of_beq_eq_true
def bP:=@List.getElem?_append_right
def bV:=@List.map_inj_left
def bY:=@Nat.add_le_add_left
def bZ:=@Nat.le_of_eq
def b7:=@List.getElem?_eq_getElem
def b9:=@List.mem_append_left
def cg:=@Array.getElem?_toList
def cA:=@Nat.succ_le_succ
def cB:=@Nat.le_add_right
def cD:=@List.nodup_cons
def cE:=@List.mem_range
def cH:=@Nat.le_of_not_lt
def cI:=@List.any_eq_true
def cM:=@List.length_reverse
def cN:=@Nat.add_le_add_right
def cR:=@List.mem_filter
def cV:=@PySem.mem_of_lookup
def dc:=@List.mem_range'_1
def dg:=@Bool.eq_false_iff
def dm:=@Int.eq_ofNat_of_zero_le
def dD:=@List.map_cons
def dF:=@List.any_cons
def dJ:=@List.lookup_cons
def dK:=@Int.ofNat_lt
def dQ:=@Nat.le_succ_of_le
def dR:=@List.getElem?_map
def dU:=@PySem.Heap.get?_push_of_some
def dZ:=@Nat.add_assoc
def d7:=@Bool.or_false
def eX:=@List.map_map
def fm:=@Array.getElem?_eq_getElem
def fy:=@Nat.le_of_ble_eq_true
def fE:=@Nat.add_comm
def fF:=@List.cons.inj
def fM:=@List.reverse_cons
def gc:=@Nat.zero_add
def gf:=@PySem.W.Fast.te17119622794617984870
def gg:=@Bool.and_true
def gm:=@List.not_mem_nil
def gA:=@List.getD_eq_getElem?_getD
def gE:=@Ne.symm
def gT:=@Nat.le_antisymm
def gU:=@Nat.le_add_left
def gV:=@List.any_append
def gW:=@Bool.eq_iff_iff
def gY:=@Nat.lt_succ_of_lt
def gZ:=@List.mem_of_getElem?
def g5:=@List.dropLast_concat
def ir:=@PyProof.Rows.slot_tuple_getitem
def iK:=@List.nil_sublist
def iL:=@List.length_cons
def iM:=@List.cons_append
noncomputable def iV:=@Nat.casesOn
def iY:=@Nat.sub_self
def iZ:=@Nat.sub_add_cancel
def i0:=@Nat.lt_of_le_of_ne
def i6:=@Nat.add_right_comm
def i7:=@List.pairwise_cons
def i8:=@Int.le_trans
def jn:=@Nat.not_lt_zero
def jo:=@List.foldl_cons
def jV:=@Nat.add_le_add
def jW:=@Int.not_lt
def kG:=@Option.isNone_iff_eq_none
def kK:=@Nat.add_sub_cancel'
def kY:=@PySem.Heap.size_push
def lg:=@PySem.Around.in1_units
def lF:=@Option.bind_eq_some_iff
def lG:=@List.length_eq_zero_iff
def mj:=@Option.map_eq_none_iff
def mq:=@Bool.not_eq_true'
def mU:=@List.length_filter_le
def mV:=@List.eq_nil_or_concat
def mX:=@List.dropLast_eq_take
def mY:=@List.concat_eq_append
def nH:=@Nat.zero_testBit
def nI:=@Nat.not_lt
def nJ:=@List.isEmpty_iff
def om:=@Nat.sub_le_of_le_add
def oQ:=@Array.size_push
def oY:=@List.mem_map_of_mem
def oZ:=@List.flatMap_append
def pC:=@Nat.succ_pos
def pD:=@Nat.succ.inj
def pF:=@Nat.ne_of_lt
def pG:=@Nat.lt_or_ge
def pH:=@Nat.beq_refl
def qi:=@List.nodup_nil
def qj:=@Bool.and_false
def qK:=@PySem.F.slot_dict_get
def ry:=@Nat.lt_trichotomy
def rz:=@Nat.le_of_lt_succ
def rA:=@Int.le_refl
def r8:=@List.length_filterMap_le
def r9:=@Int.ofNat.inj
def sd:=@Bool.true_and
def se:=@Bool.false_or
def uK:=@Nat.lt_trans
def uL:=@Int.ofNat_le
def u5:=@List.length_nil
def u6:=@Int.natCast_pos
def vP:=@List.mem_iff_getElem?
def xw:=@Nat.add_right_cancel
def xx:=@List.length_dropLast
def xy:=@List.getLast?_concat
def xA:=@List.forall_mem_cons
def xB:=@Int.sub_sub
def xC:=@Bool.false_and
def xP:=@Iff.rfl
def yZ:=@PySem.Heap.lt_size
def y9:=@Int.toNat_of_nonneg
def za:=@Int.natCast_eq_zero
def Ak:=@Prod.mk.injEq
variable{a:Nat}{b:Nat}{c:Nat}{d:Nat}{e:Nat}{P:Prop}{f:Nat}{g:Nat}
section
inductive jX where
 |v (i:Nat)|n (k:Nat)|a (x y:jX)|m (k:Nat) (x:jX)
inductive jC where
 |a (x y:jX)|b (x y:jX)|f (x y:jX)|e (x y:jX)|s (k:Nat) (c:jC)
noncomputable def ja:jX:=.v 0
noncomputable def jb:jX:=.v 1
noncomputable def jc:jX:=.v 2
noncomputable def jd:jX:=.v 3
noncomputable def je:jX:=.v 4
noncomputable def jf:jX:=.v 5
noncomputable def jg:jX:=.v 6
noncomputable def jh:jX:=.v 7
noncomputable def ji:jX:=.v 8
noncomputable def jk:jX:=.v 9
noncomputable def fU:jX:=.n 0
noncomputable def aU:jX:=.n 1
noncomputable def iH:jX:=.n 2
noncomputable def GC:jX:=.n 3
noncomputable def qz:jX:=.n 4
noncomputable def TA:jX:=.n 5
noncomputable def sF:jX:=.n 10
noncomputable def iT:jX:=.n 20
noncomputable def NR:jX:=.n 21
noncomputable def jD:jX:=.n 27
noncomputable def zW:jX:=.n 40
noncomputable def ki:jX:=.n 60
noncomputable def NQ:jX:=.n 64
noncomputable def zV:jX:=.n 80
noncomputable def uP:jX:=.n 100
noncomputable def xM:jX:=.n 349
noncomputable def oG:jX:=.n 400
noncomputable def eH:jX:=.n 900
noncomputable def oR:jX:=.n 1000
noncomputable def jt:jX:=.n 40000
noncomputable def uU:jX:=.n 49998
noncomputable def aI:jX:=.n 50000
noncomputable def jr:jX:=.n 60000
noncomputable def lY:jX:=.n 70000
noncomputable def cC:jX:=.n 80000
noncomputable def br:jX:=.n 90000
noncomputable def aX:jX:=.n 100000
noncomputable def Xn:List Nat->Nat->Nat
 |[],_=>0
 |x::r,i=>match i with
  |0=>x
  |i+1=>Xn r i
def jX.I(c:List Nat):jX->Nat
 |.v i=>Xn c i
 |.n k=>k
 |.a x y=>x.I c+y.I c
 |.m k x=>k*x.I c
def jC.V(c:List Nat):jC->Prop
 |.a x y=>x.I c<=y.I c
 |.b x y=>x.I c<y.I c
 |.f x y=>x.I c=y.I c
 |.e x y=>x.I c=y.I c
 |.s _ r=>r.V c
noncomputable def vc:List Nat->List Nat->List Nat
 |[],q=>q
 |x::p,q=>match q with
  |[]=>x::p
  |y::q=>(x+y)::vc p q
noncomputable def Ab(k:Nat):List Nat->List Nat
 |[]=>[]
 |x::p=>k*x::Ab k p
noncomputable def Nb:Nat->List Nat
 |0=>[1]
 |i+1=>0::Nb i
def jX.J:jX->List Nat
 |.v i=>0::Nb i
 |.n k=>[k]
 |.a x y=>vc x.J y.J
 |.m k x=>Ab k x.J
def jC.J:jC->List Nat
 |.a x _=>x.J
 |.b x _=>vc [1] x.J
 |.f x _=>x.J
 |.e _ y=>y.J
 |.s k r=>Ab k r.J
def jC.I:jC->List Nat
 |.a _ y=>y.J
 |.b _ y=>y.J
 |.f _ y=>y.J
 |.e x _=>x.J
 |.s k c=>Ab k c.I
noncomputable def kP:List Nat->List Nat->Nat
 |[],_=>0
 |x::p,c=>match c with
  |[]=>0
  |y::c=>x*y+kP p c
theorem sP:∀p q c,kP (vc p q) c=kP p c+kP q c
 |[],q,c=>(gc _).symm
 |x::p,[],c=>rfl
 |x::p,y::q,[]=>rfl
 |x::p,y::q,z::c=>by show(x+y)*z+kP (vc p q) c=x*z+kP p c+(y*z+kP q c);rw[sP p q c,Nat.add_mul,Nat.add_add_add_comm]
theorem yN(k:Nat):∀p c,kP (Ab k p) c=k*kP p c
 |[],c=>rfl
 |x::p,[]=>rfl
 |x::p,z::c=>by show k*x*z+kP (Ab k p) c=k*(x*z+kP p c);rw[yN k p c,Nat.mul_add,Nat.mul_assoc]
theorem Kf:∀i c,kP (Nb i) c=Xn c i
 |0,[]=>rfl
 |0,x::c=>by show 1*x+0=x;rw[Nat.one_mul];rfl
 |i+1,[]=>rfl
 |i+1,x::c=>by show 0*x+kP (Nb i) c=Xn c i;rw[Nat.zero_mul,gc,Kf i c]
theorem jX.V(c:List Nat):∀x:jX,kP x.J (1::c)=x.I c
 |.v i=>by show 0*1+kP (Nb i) c=Xn c i;rw[Nat.zero_mul,gc,Kf]
 |.n k=>by show k*1+0=k;rw[Nat.mul_one];rfl
 |.a x y=>by show kP (vc x.J y.J) _=x.I c+y.I c;rw[sP,x.V c,y.V c]
 |.m k x=>by show kP (Ab k x.J) _=k*x.I c;rw[yN,x.V c]
theorem jC.c'{c:List Nat}:∀{r:jC},r.V c->kP r.J (1::c)<=kP r.I (1::c)
 |.a x y,h=>by show kP x.J _<=kP y.J _;rw[x.V,y.V];exact h
 |.b x y,h=>by show kP (vc [1] x.J) _<=kP y.J _;rw[sP,x.V,y.V,fE];exact h
 |.f x y,h=>by show kP x.J _<=kP y.J _;rw[x.V,y.V];exact bZ h
 |.e x y,h=>by show kP y.J _<=kP x.J _;rw[x.V,y.V];exact bZ h.symm
 |.s k r,h=>by show kP (Ab k r.J) _<=kP (Ab k r.I) _;rw[yN,yN];exact Nat.mul_le_mul_left k (jC.c' (r:=r) h)
noncomputable def Nc:List jC->List Nat
 |[]=>[]
 |r::H=>vc r.J (Nc H)
noncomputable def IZ:List jC->List Nat
 |[]=>[]
 |r::H=>vc r.I (IZ H)
noncomputable def TF:List Nat->Nat
 |[]=>0
 |x::_=>x
noncomputable def Tz:List Nat->List Nat
 |[]=>[]
 |_::p=>p
noncomputable def hZ(p:List Nat):List Nat->Bool
 |[]=>true
 |y::q=>Nat.ble y (TF p)&&hZ (Tz p) q
theorem VN(z:Nat)(c:List Nat):∀p,kP p (z::c)=TF p*z+kP (Tz p) c
 |[]=>by show 0=0*z+0;rw[Nat.zero_mul]
 |_::_=>rfl
theorem Kd:∀{q p:List Nat}(c:List Nat),hZ p q=true->kP q c<=kP p c
 |[],p,c,h=>bI _
 |y::q,p,[],h=>bI _
 |y::q,p,z::c,h=>by rw[VN z c p];have h2:=ak.mp h;exact jV (Nat.mul_le_mul_right z (fy h2.1)) (Kd c h2.2)
def NS(c:List Nat):List jC->Prop
 |[]=>True
 |r::H=>r.V c/\NS c H
theorem Ga{c:List Nat}:∀{H:List jC},NS c H->kP (Nc H) (1::c)<=kP (IZ H) (1::c)
 |[],_=>aH _
 |r::H,h=>by show kP (vc r.J (Nc H)) _<=kP (vc r.I (IZ H)) _;rw[sP,sP];exact jV (jC.c' (r:=r) h.1) (Ga h.2)
def kN(H:List jC):Bool:=hZ (Nc H) (vc [1] (IZ H))
theorem zH{c:List Nat}{H:List jC}(e:kN H=true)(h:NS c H):False:=by
 have a:=Kd (1::c) e;rw[sP]at a
 exact Nat.not_succ_le_self _ (aA (aA (bZ (fE (kP (IZ H) (1::c)) 1)) a) (Ga h))
def kj(c:List Nat)(P:Prop):List jC->Prop
 |[]=>P
 |r::H=>r.V c->kj c P H
theorem uV{c:List Nat}:∀{H:List jC},(NS c H->P)->kj c P H
 |[],h=>h trivial
 |_::_,h=>λx=>uV λy=>h ⟨x,y⟩
theorem oU{c:List Nat}(x y:jX)(H:List jC)(e:kN (.b y x::H)=true):kj c (x.I c<=y.I c) H:=uV λh=>cH λz=>zH e ⟨z,h⟩
theorem oS{c:List Nat}(x y:jX)(H:List jC)(e:kN (.a y x::H)=true):kj c (x.I c<y.I c) H:=uV λh=>Nat.lt_of_not_le λz=>zH e ⟨z,h⟩
theorem Kc{c:List Nat}(H:List jC)(e:kN H=true):kj c False H:=uV λh=>zH e h
noncomputable def Xo:List Int->Nat->Int
 |[],_=>0
 |x::r,i=>match i with
  |0=>x
  |i+1=>Xo r i
def jX.O(c:List Int):jX->Int
 |.v i=>Xo c i
 |.n k=>Int.ofNat k
 |.a x y=>x.O c+y.O c
 |.m k x=>Int.ofNat k*x.O c
def jC.O(c:List Int):jC->Prop
 |.a x y=>x.O c<=y.O c
 |.b x y=>x.O c<y.O c
 |.f x y=>x.O c=y.O c
 |.e x y=>x.O c=y.O c
 |.s _ r=>r.O c
noncomputable def kC:List Nat->List Int->Int
 |[],_=>0
 |x::p,c=>match c with
  |[]=>0
  |y::c=>Int.ofNat x*y+kC p c
theorem vG:∀p q c,kC (vc p q) c=kC p c+kC q c
 |[],q,c=>(Int.zero_add _).symm
 |x::p,[],c=>(Int.add_zero _).symm
 |x::p,y::q,[]=>rfl
 |x::p,y::q,z::c=>by show Int.ofNat (x+y)*z+kC (vc p q) c=Int.ofNat x*z+kC p c+(Int.ofNat y*z+kC q c);rw[vG p q c,show Int.ofNat (x+y)=Int.ofNat x+Int.ofNat y from rfl,Int.add_mul,Int.add_assoc,Int.add_left_comm _ (kC p c),<-Int.add_assoc]
theorem yO(k:Nat):∀p c,kC (Ab k p) c=Int.ofNat k*kC p c
 |[],c=>(Int.mul_zero _).symm
 |x::p,[]=>(Int.mul_zero _).symm
 |x::p,z::c=>by show Int.ofNat (k*x)*z+kC (Ab k p) c=Int.ofNat k*(Int.ofNat x*z+kC p c);rw[yO k p c,Int.mul_add,<-Int.mul_assoc];rfl
theorem Kg:∀i c,kC (Nb i) c=Xo c i
 |0,[]=>rfl
 |0,x::c=>by show 1*x+0=x;rw[Int.one_mul,Int.add_zero]
 |i+1,[]=>rfl
 |i+1,x::c=>by show 0*x+kC (Nb i) c=Xo c i;rw[Int.zero_mul,Int.zero_add,Kg i c]
theorem jX.c'(c:List Int):∀x:jX,kC x.J (1::c)=x.O c
 |.v i=>by show 0*1+kC (Nb i) c=Xo c i;rw[Int.zero_mul,Int.zero_add,Kg]
 |.n k=>by show Int.ofNat k*1+0=Int.ofNat k;rw[Int.mul_one,Int.add_zero]
 |.a x y=>by show kC (vc x.J y.J) _=x.O c+y.O c;rw[vG,x.c' c,y.c' c]
 |.m k x=>by show kC (Ab k x.J) _=Int.ofNat k*x.O c;rw[yO,x.c' c]
theorem jC.d'{c:List Int}:∀{r:jC},r.O c->kC r.J (1::c)<=kC r.I (1::c)
 |.a x y,h=>by show kC x.J _<=kC y.J _;rw[x.c',y.c'];exact h
 |.b x y,h=>by show kC (vc [1] x.J) _<=kC y.J _;rw[vG,x.c',y.c',Int.add_comm];exact h
 |.f x y,h=>by show kC x.J _<=kC y.J _;rw[x.c',y.c'];exact Int.le_of_eq h
 |.e x y,h=>by show kC y.J _<=kC x.J _;rw[x.c',y.c'];exact Int.le_of_eq h.symm
 |.s k r,h=>by show kC (Ab k r.J) _<=kC (Ab k r.I) _;rw[yO,yO];exact Int.mul_le_mul_of_nonneg_left (jC.d' (r:=r) h) (bC k)
def DK(c:List Int):List jC->Prop
 |[]=>True
 |r::H=>r.O c/\DK c H
theorem Bx{c:List Int}:∀{H:List jC},DK c H->kC (Nc H) (1::c)<=kC (IZ H) (1::c)
 |[],_=>rA _
 |r::H,h=>by show kC (vc r.J (Nc H)) _<=kC (vc r.I (IZ H)) _;rw[vG,vG];exact Int.add_le_add (jC.d' (r:=r) h.1) (Bx h.2)
theorem Dd(z:Int)(c:List Int):∀p,kC p (z::c)=Int.ofNat (TF p)*z+kC (Tz p) c
 |[]=>by show 0=0*z+0;rw[Int.zero_mul];rfl
 |_::_=>rfl
noncomputable def jz:List Nat->Bool
 |[]=>true
 |x::p=>Nat.beq x 0&&jz p
theorem Sy:∀{p:List Nat}(c:List Int),jz p=true->kC p c=0
 |[],c,h=>rfl
 |x::p,[],h=>rfl
 |x::p,y::c,h=>by have h2:=ak.mp h;have h3:=bM h2.1;show Int.ofNat x*y+kC p c=0;rw[h3,Sy c h2.2];show 0*y+0=0;rw[Int.zero_mul];rfl
noncomputable def ij(p:List Nat):List Nat->Bool
 |[]=>jz p
 |y::q=>Nat.beq (TF p) y&&ij (Tz p) q
theorem Ke:∀{q p:List Nat}(c:List Int),ij p q=true->kC p c=kC q c
 |[],p,c,h=>Sy c h
 |y::q,[],[],h=>rfl
 |y::q,x::p,[],h=>rfl
 |y::q,p,z::c,h=>by have h2:=ak.mp h;rw[Dd z c p,bM h2.1,Ke c h2.2];rfl
def B3(H:List jC):Bool:=Nat.ble (TF (IZ H)+1) (TF (Nc H))&&ij (Tz (Nc H)) (Tz (IZ H))
theorem pO{c:List Int}{H:List jC}(e:B3 H=true)(h:DK c H):False:=by
 have h2:=ak.mp e;have a:=Bx h;rw[Dd,Dd,Ke c h2.2,Int.mul_one,Int.mul_one]at a
 exact Nat.not_succ_le_self _ (aA (fy h2.1) (uL.mp (Int.le_of_add_le_add_right a)))
def zX(c:List Int)(P:Prop):List jC->Prop
 |[]=>P
 |r::H=>r.O c->zX c P H
theorem nU{c:List Int}:∀{H:List jC},(DK c H->P)->zX c P H
 |[],h=>h trivial
 |_::_,h=>λx=>nU λy=>h ⟨x,y⟩
theorem I2{a:Int}(x y:jX)(H:List jC)(z:B3 (.b y x::H)=true):zX [a] (x.O [a]<=y.O [a]) H:=nU λh=>jW.mp λw=>pO z ⟨w,h⟩
theorem TH{a:Int}(x y:jX)(H:List jC)(z:B3 (.a y x::H)=true):zX [a] (x.O [a]<y.O [a]) H:=nU λh=>Int.not_le.mp λw=>pO z ⟨w,h⟩
theorem Xq{a:Int}(H:List jC)(z:B3 H=true):zX [a] False H:=nU λh=>pO z h
theorem iq{a b:Int}(x y:jX)(H:List jC)(z:B3 (.b y x::H)=true):zX [a,b] (x.O [a,b]<=y.O [a,b]) H:=nU λh=>jW.mp λw=>pO z ⟨w,h⟩
theorem iT2{a b:Int}(x y:jX)(H:List jC)(z:B3 (.a y x::H)=true):zX [a,b] (x.O [a,b]<y.O [a,b]) H:=nU λh=>Int.not_le.mp λw=>pO z ⟨w,h⟩
theorem Nd{a b:Int}(H:List jC)(z:B3 H=true):zX [a,b] False H:=nU λh=>pO z h
theorem kQ(x y:jX)(H:List jC)(z:kN (.b y x::H)=true):kj [a] (x.I [a]<=y.I [a]) H:=oU x y H z
theorem fJ(x y:jX)(H:List jC)(z:kN (.a y x::H)=true):kj [a] (x.I [a]<y.I [a]) H:=oS x y H z
theorem YO(H:List jC)(z:kN H=true):kj [a] False H:=Kc H z
theorem mK(x y:jX)(H:List jC)(z:kN (.b y x::H)=true):kj [a,b] (x.I [a,b]<=y.I [a,b]) H:=oU x y H z
theorem fh(x y:jX)(H:List jC)(z:kN (.a y x::H)=true):kj [a,b] (x.I [a,b]<y.I [a,b]) H:=oS x y H z
theorem YN(H:List jC)(z:kN H=true):kj [a,b] False H:=Kc H z
theorem pR(x y:jX)(H:List jC)(z:kN (.b y x::H)=true):kj [a,b,c] (x.I [a,b,c]<=y.I [a,b,c]) H:=oU x y H z
theorem lS(x y:jX)(H:List jC)(z:kN (.a y x::H)=true):kj [a,b,c] (x.I [a,b,c]<y.I [a,b,c]) H:=oS x y H z
theorem ri(x y:jX)(H:List jC)(z:kN (.b y x::H)=true):kj [a,b,c,d] (x.I [a,b,c,d]<=y.I [a,b,c,d]) H:=oU x y H z
theorem Xp(x y:jX)(H:List jC)(z:kN (.a y x::H)=true):kj [a,b,c,d] (x.I [a,b,c,d]<y.I [a,b,c,d]) H:=oS x y H z
theorem TG(x y:jX)(H:List jC)(z:kN (.b y x::H)=true):kj [a,b,c,d,e] (x.I [a,b,c,d,e]<=y.I [a,b,c,d,e]) H:=oU x y H z
theorem Oe(x y:jX)(H:List jC)(z:kN (.a y x::H)=true):kj [a,b,c,d,e] (x.I [a,b,c,d,e]<y.I [a,b,c,d,e]) H:=oS x y H z
theorem jL6(x y:jX)(H:List jC)(z:kN (.b y x::H)=true):kj [a,b,c,d,e,f] (x.I [a,b,c,d,e,f]<=y.I [a,b,c,d,e,f]) H:=oU x y H z
theorem jT6(x y:jX)(H:List jC)(z:kN (.a y x::H)=true):kj [a,b,c,d,e,f] (x.I [a,b,c,d,e,f]<y.I [a,b,c,d,e,f]) H:=oS x y H z
end
theorem ik{h:Nat}(x y:jX)(H:List jC)(z:kN (.b y x::H)=true):kj [a,b,c,d,e,f,g,h] (x.I [a,b,c,d,e,f,g,h]<=y.I [a,b,c,d,e,f,g,h]) H:=oU x y H z
theorem zr{h i j:Nat}(x y:jX)(H:List jC)(z:kN (.b y x::H)=true):kj [a,b,c,d,e,f,g,h,i,j] (x.I [a,b,c,d,e,f,g,h,i,j]<=y.I [a,b,c,d,e,f,g,h,i,j]) H:=oU x y H z
theorem jT7(x y:jX)(H:List jC)(z:kN (.a y x::H)=true):kj [a,b,c,d,e,f,g] (x.I [a,b,c,d,e,f,g]<y.I [a,b,c,d,e,f,g]) H:=oS x y H z
theorem jT8{h:Nat}(x y:jX)(H:List jC)(z:kN (.a y x::H)=true):kj [a,b,c,d,e,f,g,h] (x.I [a,b,c,d,e,f,g,h]<y.I [a,b,c,d,e,f,g,h]) H:=oS x y H z
theorem inl{x:Nat}{c:Int}(h:(x:Int)<c):x<c.toNat:=Int.lt_toNat.mpr h
theorem I1{a b:Int}(h:27<=b)(e:decide (a<27)=true):¬b=a:=λq=>jW.mpr h (q▸of_decide_eq_true e)
theorem nn{α:Type _}{x:α}(h:none=some x):P:=by cases h
theorem sn{α:Type _}{x:α}(h:some x=none):P:=by cases h
theorem si{α:Type _}{x y:α}(h:some x=some y):y=x:=by cases h;rfl
theorem u7{α β:Type _}{x y:α}{z w:β}(h:some (x,z)=some (y,w)):y=x/\w=z:=by cases h;exact⟨rfl,rfl⟩
theorem ft(h:false=true):P:=Bool.noConfusion h
theorem tf(h:true=false):P:=Bool.noConfusion h

end
end au
end
noncomputable section
open PySem
namespace au
section
variable{p:Int}{m:Nat}{i:Nat}{j:Nat}{x:Int}{n:Nat}{A:List Int}{id:Nat}{G:List Int}{tgt:Nat ⊕ List Nat}{ts:List Int}{b:Bool}{c:Nat}{now:Nat}{q:Nat}{kind:Int}{at_:Int}{y:Int}{how:Int}{lo:Nat}{r:Nat->Bool}{w1:Int}{z:Nat}{fl:Nat}{cn:Nat}{pp:Int}{cy:Nat}
section
set_option genCtorIdx true
inductive vn where|a|e|c|f|b|d
inductive PM where|a|c|e|h|d|f|b|g
inductive BI where|a|d|b|c
inductive PV where
 |h
 |g (b:Bool)
 |d (i:Int)
 |k (s:Str)
 |f (vs:List PV)
 |j (vs:List PV)
 |o (ks vs:List PV)
 |m (c:Nat) (vs:List PV)
 |l (id:Nat) (vs:List PV)
 |e (i:Nat)
 |p (a:Nat)
 |n (ns:List Int)
inductive MV where
 |a (p:PV)
 |b (d i:Nat)
 |e (c k:Nat)
inductive ah where
 |a (vs:List PV)
 |e (XU:Bool) (kvs:List (PV×PV))
 |g (c:Nat) (as:List (Nat×PV))
 |f (eK:List (List PV))
 |d
set_option genCtorIdx false
structure St where
 b:List ah
 a:List (List ah)
 c:List Int
abbrev dj:=List (Option MV)
mutual
inductive ME where
 |n (v:PV)
 |y (i:Nat)
 |d (k:Nat)
 |x (op:vn) (l r:ME)
 |F (e:ME)
 |G (e:ME)
 |z (a b:ME)
 |A (a b:ME)
 |B (t a b:ME)
 |w (ps:Nq)
 |u (es:AZ)
 |p (es:AZ)
 |K (gF:ME) (tgt:Nat ⊕ List Nat) (fX:ME)
 |J (gF:ME) (tgt:Nat ⊕ List Nat) (fX cQ:ME)
 |h (op:PM) (l r:ME)
 |H (e:ME) (wQ:Bool)
 |j (f:Nat) (args:AZ)
 |C (c:Nat) (args:AZ)
 |D (b:BI) (e:ME)
 |s (o:ME) (name:Nat) (args:AZ)
 |g (o:ME) (name:Nat)
 |q (o i:ME)
 |I (o:ME) (lo hi:Option Int)
 |m (dead:Bool) (e:ME)
 |E (e:ME)
 |N
 |M
 |L
inductive AZ where
 |b
 |a (e:ME) (es:AZ)
inductive Nq where
 |a
 |b (k v:ME) (ps:Nq)
end
inductive PK where
 |a (e:ME)
 |c (e:ME)
 |b (e:ME)
mutual
inductive MS where
 |c (i:Nat) (e:ME)
 |q (i:Nat) (e:ME)
 |u (is:List Nat) (e:ME)
 |g (o:ME) (name:Nat) (e:ME)
 |l (o i:ME) (e:ME)
 |r (i:Nat) (op:vn) (e:ME)
 |v (o:ME) (name:Nat) (op:vn) (e:ME)
 |d (t:ME) (a b:nP)
 |m (t:ME) (body:nP)
 |k (tgt:Nat ⊕ List Nat) (it:PK) (body:nP)
 |f (e:ME)
 |p
 |h (e:ME)
 |n (body eF:nP)
 |w
 |j
inductive nP where
 |c
 |a (s:MS) (ss:nP)
end
structure bH where
 a:Nat
 b:List PV:=[]
 c:Nat
 d:nP
structure iJ where
 a:Option Nat
 d:Bool
 c:List Nat
 b:List (Nat×Nat)
theorem PV.d.inj{a b:Int}(h:PV.d a=PV.d b):a=b:=by cases h;rfl
theorem PV.k.inj{a b:Str}(h:PV.k a=PV.k b):a=b:=by cases h;rfl
theorem PV.f.inj{a b:List PV}(h:PV.f a=PV.f b):a=b:=by cases h;rfl
end
abbrev aax:=List (Value×Value)
abbrev aaw:=List (Nat×Nat)
abbrev aav:=List (Int×Nat)
abbrev aau:=Array GenState
abbrev aat:=List (PV×Addr×Value)
abbrev aas:=List (Option Expr)
abbrev aar:=List (Str×Addr)
abbrev aaq:=Option NameKind
abbrev aap:=Option Nat
abbrev aao:=Option (Nat×Nat)
abbrev aan:=List (Str×Nat×Value)
abbrev aam:=List (Int×Value)
abbrev aal:=Option Int
abbrev aak:=List (Str×Value)
abbrev aaj:=List Stmt
abbrev aag:=List Bool
abbrev aaf:=Option PV
abbrev aae:=List DictEntry
abbrev aad:=List (Str×NameKind)
abbrev aab:=List Str
abbrev WL:=List (Nat×PV)
abbrev WE:=List (Str×Nat)
abbrev WC:=List MV
abbrev WB:=List Expr
abbrev WA:=Array Value
abbrev V9:=Option Value
abbrev V8:=Option Bool
abbrev V6:=List ah
abbrev V5:=List (V6)
abbrev S9:=List Value
abbrev S8:=List (PV×PV)
abbrev S7:=Option MV
abbrev S6:=List (Nat×Str)
abbrev S5:=List Nat
abbrev S3:=List PV
abbrev S1:=List Int

variable{s:St}{v:PV}{loc:dj}{nd:PV}{vs:S3}{X:S3}{a0:PV}{t:PV}{a1:PV}{a2:PV}{w:PV}{o:S7}{S:St}{a3:S7}{a4:S7}{Y:S3}
noncomputable abbrev aM:ME:=.y 0
noncomputable abbrev bE:ME:=.y 1
noncomputable abbrev bW:ME:=.y 2
noncomputable abbrev dw:ME:=.y 3
noncomputable abbrev dN:ME:=.y 4
noncomputable abbrev gw:ME:=.y 5
noncomputable abbrev jj:ME:=.y 6
noncomputable abbrev wU:ME:=.y 7
noncomputable abbrev xY:ME:=.y 8
noncomputable abbrev Aa:ME:=.y 9
noncomputable abbrev zU:ME:=.y 10
noncomputable abbrev zT:ME:=.y 11
noncomputable abbrev NP:ME:=.y 12
noncomputable abbrev EF:ME:=.y 14
noncomputable abbrev oE:ME:=.y 16
noncomputable abbrev IC:ME:=.y 17
noncomputable abbrev NO:ME:=.y 18
noncomputable abbrev NN:ME:=.y 19
noncomputable abbrev NK:ME:=.y 23
noncomputable abbrev NJ:ME:=.y 24
noncomputable abbrev bX:ME:=.n (.d 0)
noncomputable abbrev cW:ME:=.n (.d 1)
noncomputable abbrev qd:ME:=.n (.d 2)
noncomputable abbrev qy:ME:=.n (.d 3)
noncomputable abbrev wW:ME:=.n (.d 4)
noncomputable abbrev Na:ME:=.n (.d 5)
noncomputable abbrev YK:ME:=.n (.d 6)
noncomputable abbrev Xm:ME:=.n (.d 7)
noncomputable abbrev Cz:ME:=.n (.d 8)
noncomputable abbrev IE:ME:=.n (.d 10)
noncomputable abbrev BZ:ME:=.n (.d 28)
noncomputable abbrev ID:ME:=.n (.d 96)
noncomputable abbrev AB:ME:=.n (.d 384)
noncomputable abbrev DH:ME:=.n (.d 512)
noncomputable abbrev vE:ME:=.n (.d 2322)
noncomputable abbrev qp:ME:=.n (.d 4095)
def f0:bH:=⟨6,[],6,.a (.g aM 0 bE)<|.a (.g aM 1 bW)<|.a (.g aM 2 dw)<|.a (.g aM 3 dN)<|.a (.g aM 4 gw)<|.a (.g aM 5 bX) .c⟩
def f1:bH:=⟨2,[],2,.a (.f (.h .c (.x .b (.g aM 3) bE) bX)) .c⟩
def f2:bH:=⟨5,[],5,.a (.g aM 6 bE)<|.a (.g aM 4 bW)<|.a (.g aM 7 dw)<|.a (.g aM 8 dN) .c⟩
def f3:bH:=⟨2,[.k ""],2,.a (.g aM 9 (.E (.u .b)))<|.a (.g aM 8 bE) .c⟩
def f4:bH:=⟨4,[],4,.a (.h (.s (.g aM 9) 10 (.a (.C 1 (.a bE<|.a bW<|.a dw<|.a (.g aM 8) .b)) .b))) .c⟩
def f5:bH:=⟨1,[],1,.a (.g aM 9 (.E (.u .b))) .c⟩
def f6:bH:=⟨3,[],3,.a (.h (.s (.g aM 9) 10 (.a (.p (.a bE<|.a bW .b)) .b))) .c⟩
def f7:bH:=⟨1,[],2,.a (.g aM 9 (.E (.u .b)))<|.a (.g aM 11 .M)<|.a (.g aM 12 (.m false (.u (.a (.n .h) .b))))<|.a (.g aM 13 (.m false (.u .b)))<|.a (.g aM 14 (.m false (.u .b)))<|.a (.g aM 15 (.m false (.u .b)))<|.a (.g aM 16 (.m false (.w .a)))<|.a (.g aM 17 (.m false (.w .a)))<|.a (.g aM 18 bX)<|.a (.g aM 19 bX)<|.a (.k (.inl 1) (.a (.d 0)) (.a (.h (.s aM 20 (.a bE .b))) .c)) .c⟩
def f8:bH:=⟨2,[],3,.a (.d (.h .b bE (.g aM 11)) (.a (.f (.q (.g aM 11) bE)) .c) .c)<|.a (.c 2 (.D .a (.g aM 9)))<|.a (.h (.s (.g aM 9) 10 (.a bE .b)))<|.a (.l (.g aM 11) bE bW)<|.a (.f bW) .c⟩
def f9:bH:=⟨2,[],2,.a (.f (.q (.q (.g aM 9) bE) bX)) .c⟩
def PJ:bH:=⟨6,[.f [],.d 0],6,.a (.f (.s aM 20 (.a (.p (.a (.d 1)<|.a (.D .b bE)<|.a (.D .b bW)<|.a dw<|.a dN<|.a gw .b)) .b))) .c⟩
def PI:bH:=⟨2,[],3,.a (.d (.h .a bE (.d 2)) (.a (.f (.p .b)) .c) .c)<|.a (.c 2 (.q (.g aM 9) bE))<|.a (.d (.h .a (.q bW bX) (.d 3)) (.a (.f (.q bW cW)) .c) .c)<|.a (.f (.p (.a bE .b))) .c⟩
def PG:bH:=⟨1,[],2,.a (.c 1 (.q aM bX))<|.a (.d (.A (.h .a bE (.d 5)) (.h .a bE (.d 4))) (.a (.f (.d 6)) .c) .c)<|.a (.d (.h .a bE (.d 7)) (.a (.f (.d 8)) .c) .c)<|.a (.d (.h .a bE (.d 9)) (.a .j .c) .c)<|.a (.f (.G cW)) .c⟩
def PF:bH:=⟨2,[],3,.a (.c 2 (.q (.g aM 9) bE))<|.a (.d (.z (.h .b (.q bW bX) (.d 10)) (.h .a (.q bW (.G cW)) cW)) (.a (.f (.s (.g aM 11) 21 (.a (.m false (.x .a (.m false (.I bW none (some (-1)))) (.p (.a bX .b))))<|.a (.G cW) .b))) .c) .c)<|.a (.f (.G cW)) .c⟩
def PE:bH:=⟨1,[],1,.a (.d (.z (.A (.h .b (.d 14) aM) (.h .b (.d 13) aM)) (.A (.h .b (.d 12) aM) (.h .b (.d 11) aM))) (.a (.l aM (.d 14) cW)<|.a (.l aM (.d 12) cW) .c) .c) .c⟩
def PD:bH:=⟨3,[],3,.a (.d (.h .b (.j 13 (.a aM<|.a bW .b)) bE) (.a (.f (.n (.g false))) .c) .c)<|.a (.f (.h .g (.j 12 (.a (.q (.g aM 9) bW) .b)) bE)) .c⟩
def PC:bH:=⟨1,[],2,.a (.k (.inl 1) (.a (.p (.a (.d 17)<|.a (.d 16)<|.a (.d 15) .b))) (.a (.d (.h .b bE aM) (.a (.f bE) .c) .c) .c))<|.a (.f (.G cW)) .c⟩
def PB:bH:=⟨2,[],8,.a (.c 2 (.w .a))<|.a (.k (.inl 3) (.a bE) (.a (.k (.inl 4) (.a (.j 11 (.a aM<|.a dw .b))) (.a (.l bW dN cW) .c)) .c))<|.a (.c 5 (.j 16 (.a bW .b)))<|.a (.d (.h .f gw bX) (.a (.f gw) .c) .c)<|.a (.h (.j 14 (.a bW .b)))<|.a (.c 6 (.m false (.J wU (.inl 7) (.m false (.D .d bW)) (.j 15 (.a aM<|.a bW<|.a wU .b)))))<|.a (.d (.F jj) (.a (.f (.d 2)) .c) .c)<|.a (.d (.h .a (.D .a jj) cW) (.a (.f (.q jj bX)) .c) .c)<|.a (.d (.h .d (.D .a jj) (.d 18)) (.a .j .c) .c)<|.a (.f (.s aM 20 (.a (.p (.a (.d 3)<|.a (.D .b jj) .b)) .b))) .c⟩
def PA:bH:=⟨2,[],2,.a (.f (.h .b (.q (.q (.g aM 9) bE) bX) (.d 19))) .c⟩
def Pz:bH:=⟨2,[],2,.a (.f (.A (.h .a bE (.d 21)) (.A (.h .a bE (.d 20)) (.j 18 (.a aM<|.a bE .b))))) .c⟩
def Py:bH:=⟨2,[],3,.a (.c 2 (.q (.g aM 9) bE))<|.a (.f (.z (.h .b (.q bW bX) (.d 10)) (.h .a (.q bW (.G cW)) cW))) .c⟩
def Px:bH:=⟨2,[],2,.a (.d (.j 20 (.a aM<|.a bE .b)) (.a (.f (.s aM 20 (.a (.m false (.x .a (.m false (.I (.q (.g aM 9) bE) none (some (-1)))) (.p (.a bX .b)))) .b))) .c) .c)<|.a (.f bE) .c⟩
def Pw:bH:=⟨2,[],3,.a (.d (.h .a (.j 9 (.a aM<|.a bE .b)) (.d 3)) (.a (.f (.j 17 (.a aM<|.a (.m false (.K (.j 21 (.a aM<|.a bW .b)) (.inl 2) (.j 11 (.a aM<|.a bE .b)))) .b))) .c) .c)<|.a (.f (.j 21 (.a aM<|.a bE .b))) .c⟩
def Pu:bH:=⟨2,[],4,.a (.c 2 (.q (.g aM 9) bE))<|.a (.d (.h .a (.q bW bX) (.d 22)) (.a (.f (.d 23)) .c) .c)<|.a (.d (.h .a (.q bW bX) (.d 9)) (.a .j .c) .c)<|.a (.c 3 (.j 12 (.a bW .b)))<|.a (.f (.B (.h .f dw bX) dw bE)) .c⟩
def I9:bH:=⟨2,[],5,.a (.c 2 (.q (.g aM 9) bE))<|.a (.c 3 (.q bW bX))<|.a (.d (.h .a dw (.d 24)) (.a .j .c) .c)<|.a (.d (.h .a dw (.d 22)) (.a (.f (.d 25)) .c) .c)<|.a (.d (.h .b dw (.d 26)) (.a .j .c) .c)<|.a (.d (.h .a dw (.d 3)) (.a .j .c) .c)<|.a (.d (.h .a dw (.d 27)) (.a .j .c) .c)<|.a (.c 4 (.j 12 (.a bW .b)))<|.a (.d (.h .e dN bX) (.a .j .c) .c)<|.a (.f (.B (.h .a dN (.d 6)) (.d 28) (.d 29))) .c⟩
def Pr:bH:=⟨1,[],1,.a (.g aM 22 (.E (.u (.a (.d 30) .b))))<|.a (.g aM 23 .N)<|.a (.g aM 24 (.E (.u (.a (.n .h) .b))))<|.a (.g aM 25 (.E (.u (.a (.p .b) .b))))<|.a (.g aM 4 (.m false (.w .a)))<|.a (.g aM 26 (.E (.w .a)))<|.a (.g aM 27 (.m false (.w .a)))<|.a (.g aM 28 (.m false (.w .a)))<|.a (.g aM 29 (.m false (.u .b)))<|.a (.g aM 30 (.m false (.w .a)))<|.a (.g aM 31 (.m false (.w .a)))<|.a (.g aM 32 bX)<|.a (.g aM 33 bX)<|.a (.g aM 34 bX) .c⟩
def Pq:bH:=⟨5,[],5,.a (.h (.s (.g aM 22) 10 (.a bE .b)))<|.a (.h (.s (.g aM 23) 10 (.a bW .b)))<|.a (.h (.s (.g aM 24) 10 (.a dw .b)))<|.a (.h (.s (.g aM 25) 10 (.a dN .b)))<|.a (.f (.x .e (.D .a (.g aM 22)) cW)) .c⟩
def Pp:bH:=⟨3,[],3,.a (.g aM 35 bE)<|.a (.g aM 36 bW) .c⟩
def Po:bH:=⟨2,[],2,.a (.f (.h .b (.g bE 5) (.g aM 35))) .c⟩
def Pn:bH:=⟨3,[],6,.a (.c 3 (.q (.g aM 22) bE))<|.a (.d (.h .a dw (.d 31)) (.a (.f (.z (.h .a (.q (.g aM 25) bE) (.p .b)) (.s bW 26 (.a (.q (.g aM 24) bE) .b)))) .c) .c)<|.a (.d (.h .a dw (.d 32)) (.a .j<|.a .j .c) .c)<|.a (.f (.n (.g false))) .c⟩
def Pk:bH:=⟨3,[],7,.a (.c 3 (.w .a))<|.a (.c 4 (.u (.a bE .b)))<|.a (.m dN (.a (.c 5 (.s dN 37 .b))<|.a (.d (.h .b gw dw) (.a .w .c) .c)<|.a (.l dw gw cW)<|.a (.d (.h .a (.q (.g aM 22) gw) (.d 33)) (.a (.f (.n (.g true))) .c) .c)<|.a (.d (.F (.j 29 (.a aM<|.a gw<|.a bW .b))) (.a (.k (.inl 6) (.a (.q (.g aM 23) gw)) (.a (.h (.s dN 10 (.a jj .b))) .c)) .c) .c) .c))<|.a (.f (.n (.g false))) .c⟩
def Pj:bH:=⟨2,[],2,.a (.d (.z (.j 18 (.a aM<|.a bE .b)) (.j 20 (.a aM<|.a bE .b))) (.a (.f (.j 23 (.a aM<|.a bE .b))) .c) .c)<|.a (.f bE) .c⟩
def Ph:bH:=⟨2,[],3,.a (.f (.j 17 (.a aM<|.a (.m false (.K (.j 31 (.a aM<|.a bW .b)) (.inl 2) (.j 11 (.a aM<|.a bE .b)))) .b))) .c⟩
def Pg:bH:=⟨2,[],2,.a (.f (.j 34 (.a aM<|.a bE<|.a (.w .a)<|.a bX .b))) .c⟩
def Pf:bH:=⟨4,[],4,.a (.d (.h .b bE bW) (.a (.f (.q bW bE)) .c) .c)<|.a (.l bW bE bE)<|.a (.d (.h .e dw (.d 34)) (.a (.l bW bE (.j 35 (.a aM<|.a bE<|.a (.q (.g aM 9) bE)<|.a bW<|.a (.x .a dw cW) .b))) .c) .c)<|.a (.f (.q bW bE)) .c⟩
def Pe:bH:=⟨5,[],10,.a (.d (.h .a (.q bW bX) (.d 35)) (.a (.c 5 (.u .b))<|.a (.k (.inl 6) (.a (.q bW cW)) (.a (.c 7 (.j 34 (.a aM<|.a (.q jj cW)<|.a dw<|.a dN .b)))<|.a (.d (.h .a (.q bW YK) cW) (.a (.c 7 (.j 22 (.a aM<|.a wU .b))) .c) .c)<|.a (.h (.s gw 10 (.a (.p (.a (.q jj bX)<|.a wU<|.a (.q jj qd)<|.a (.q jj qy) .b)) .b))) .c))<|.a (.f (.s aM 20 (.a (.p (.a (.d 35)<|.a (.D .b gw)<|.a (.q bW qd)<|.a (.q bW qy)<|.a (.q bW wW)<|.a (.q bW Na)<|.a bX .b)) .b))) .c) .c)<|.a (.d (.h .a (.q bW bX) (.d 3)) (.a (.f (.j 17 (.a aM<|.a (.m false (.K (.j 34 (.a aM<|.a Aa<|.a dw<|.a dN .b)) (.inl 9) (.q bW cW))) .b))) .c) .c)<|.a (.d (.h .a (.q bW bX) (.d 36)) (.a .j .c) .c)<|.a (.d (.h .a (.q bW bX) (.d 37)) (.a .j<|.a .j .c) .c)<|.a (.f bE) .c⟩
def Pd:bH:=⟨3,[],5,.a (.k (.inl 3) (.a (.j 11 (.a (.g aM 40)<|.a (.s (.g aM 38) 39 (.a bW .b)) .b))) (.a (.c 4 (.j 9 (.a (.g aM 40)<|.a dw .b)))<|.a (.d (.z (.j 18 (.a (.g aM 40)<|.a dw .b)) (.h .a (.j 24 (.a (.g aM 40)<|.a dw .b)) (.j 24 (.a (.g aM 40)<|.a bE .b)))) (.a (.f (.n (.g true))) .c) .c)<|.a (.d (.z (.h .b dN (.p (.a (.d 4)<|.a (.d 38) .b))) (.h .a (.j 24 (.a (.g aM 40)<|.a bE .b)) (.d 28))) (.a .j .c) .c)<|.a (.d (.z (.h .b dN (.p (.a (.d 41)<|.a (.d 40)<|.a (.d 39) .b))) .L) (.a .j .c) .c)<|.a (.d (.z (.h .a dN (.d 27)) .L) (.a .j .c) .c) .c))<|.a (.f (.n (.g false))) .c⟩
def Pc:bH:=⟨3,[],6,.a (.d (.h .a bW (.G cW)) (.a (.f (.j 32 (.a (.g aM 40)<|.a bE .b))) .c) .c)<|.a (.c 3 (.u .b))<|.a (.k (.inl 4) (.a (.j 11 (.a (.g aM 40)<|.a bE .b))) (.a (.d (.j 18 (.a (.g aM 40)<|.a dN .b)) (.a (.c 5 (.j 36 (.a aM<|.a dN<|.a bW .b)))<|.a (.c 4 (.B gw (.j 22 (.a (.g aM 40)<|.a dN .b)) (.j 32 (.a (.g aM 40)<|.a dN .b)))) .c) .c)<|.a (.h (.s dw 10 (.a dN .b))) .c))<|.a (.f (.j 17 (.a (.g aM 40)<|.a dw .b))) .c⟩
def Pb:bH:=⟨3,[],3,.a (.g aM 41 bE)<|.a (.g aM 42 bW)<|.a (.g aM 43 bX)<|.a (.g aM 44 bX) .c⟩
def Pa:bH:=⟨1,[],5,.a (.c 1 (.u .b))<|.a (.c 2 (.u (.a aM .b)))<|.a (.m bW (.a (.c 3 (.s bW 37 .b))<|.a (.d (.h .a (.g dw 0) (.d 42)) (.a (.h (.s bE 10 (.a dw .b))) .c) (.a (.d (.z (.h .c (.g dw 0) (.d 44)) (.h .c (.g dw 0) (.d 43))) (.a (.k (.inl 4) (.c (.g dw 2)) (.a (.d (.H dN true) (.a (.h (.s bW 10 (.a dN .b))) .c) .c) .c)) .c) .c) .c)) .c))<|.a (.f (.m true bE)) .c⟩
def O9:bH:=⟨2,[],3,.a (.d (.A (.H (.g aM 45) false) (.h .g (.g bE 5) (.g (.g aM 45) 26))) (.a (.f (.n (.g true))) .c) .c)<|.a (.c 2 (.g aM 46))<|.a (.d (.H bW false) (.a (.c 2 (.C 6 (.a (.m false (.w .a))<|.a (.m false (.w .a)) .b))) .c) .c)<|.a (.f (.j 30 (.a (.g aM 45)<|.a (.q (.g (.g aM 45) 26) (.g bE 5))<|.a bW .b))) .c⟩
def O8:bH:=⟨3,[],6,.a (.c 3 (.E (.u .b)))<|.a (.c 4 (.j 40 (.a aM<|.a bE .b)))<|.a (.k (.inl 5) (.a (.j 39 (.a (.q (.g bE 2) qy) .b))) (.a (.d (.H (.q (.g gw 2) bX) true) (.a (.h (.s dw 10 (.a (.s aM 47 (.a (.q (.g gw 2) bX)<|.a bW .b)) .b))) .c) (.a (.c 4 (.n (.g true))) .c)) .c))<|.a (.f (.p (.a dw<|.a dN .b))) .c⟩
def O7:bH:=⟨3,[],3,.a (.d (.j 19 (.a (.g aM 40)<|.a bE .b)) (.a (.c 1 (.j 37 (.a aM<|.a bE<|.a bW .b))) .c) .c)<|.a (.f (.j 22 (.a (.g aM 40)<|.a (.j 33 (.a (.g aM 40)<|.a bE .b)) .b))) .c⟩
def O6:bH:=⟨3,[],5,.a (.u [3,4] (.j 41 (.a aM<|.a bE<|.a bW .b)))<|.a (.d (.F dw) (.a (.d (.z (.F dN) (.z (.F (.j 1 (.a bE<|.a (.d 46) .b))) (.z (.F (.j 1 (.a bE<|.a (.d 45) .b))) (.h .g (.g bE 5) (.g aM 48))))) (.a (.f (.d 2)) .c) .c)<|.a (.f (.B (.z (.h .c bW (.G cW)) (.h .a (.s (.g aM 38) 39 (.a bW .b)) (.d 21))) (.d 21) (.d 47))) .c) .c)<|.a (.d dN (.a (.h (.s dw 10 (.a (.d 21) .b))) .c) .c)<|.a (.f (.j 42 (.a aM<|.a (.s (.g aM 49) 50 (.a aM<|.a bE<|.a dw .b))<|.a bW .b))) .c⟩
def O5:bH:=⟨3,[],4,.a (.c 3 (.B (.h .a bW (.G cW)) (.G cW) (.q (.q (.g (.g aM 40) 9) bW) qy)))<|.a (.d (.A (.j 1 (.a bE<|.a (.d 49) .b)) (.j 1 (.a bE<|.a (.d 48) .b))) (.a (.f (.d 47)) .c) .c)<|.a (.d (.H (.q (.g bE 2) qy) false) (.a (.f (.d 17)) .c) .c)<|.a (.d (.j 1 (.a bE<|.a (.d 50) .b)) (.a (.f (.j 42 (.a aM<|.a (.s aM 47 (.a (.q (.g bE 2) qy)<|.a dw .b))<|.a dw .b))) .c) .c)<|.a (.f (.j 43 (.a aM<|.a bE<|.a dw .b))) .c⟩
def Nh:bH:=⟨3,[],5,.a (.c 3 (.B (.H (.q (.g bE 2) qd) false) bE (.q (.g bE 2) qd)))<|.a (.c 4 (.s (.g aM 38) 39 (.a (.g bW 41) .b)))<|.a (.d (.A (.h .b dN (.p (.a (.d 17)<|.a (.d 16)<|.a (.d 21) .b))) (.h .b (.d 47) (.j 11 (.a (.g aM 40)<|.a dN .b)))) (.a .p .c) .c)<|.a (.d (.F (.j 40 (.a aM<|.a bE .b))) (.a .p .c) .c)<|.a (.d (.h .a dN (.d 2)) (.a (.h (.s aM 51 (.a (.n (.d 2534))<|.a dw<|.a (.p .b) .b))) .c) (.a (.d (.F (.g bW 43)) (.a (.h (.s aM 51 (.a (.n (.d 2355))<|.a dw<|.a (.p .b) .b))) .c) (.a (.d (.F (.q (.s (.g aM 49) 52 (.a aM<|.a (.d 21)<|.a dN .b)) bX)) (.a (.h (.s aM 51 (.a (.n (.d 2366))<|.a dw<|.a (.p .b) .b))) .c) .c) .c)) .c)) .c⟩
def I8:bH:=⟨3,[],5,.a (.c 3 (.q (.g bE 2) qy))<|.a (.d (.F (.j 1 (.a bE<|.a (.d 50) .b))) (.a (.h (.s aM 53 (.a dw .b)))<|.a (.d (.g bW 42) (.a (.h (.j 45 (.a aM<|.a bE<|.a bW .b))) .c) .c)<|.a .p .c) .c)<|.a (.c 4 (.s aM 47 (.a dw<|.a (.g bW 41) .b)))<|.a (.d (.g bW 42) (.a (.h (.s aM 52 (.a dw<|.a dN<|.a (.g bW 41)<|.a (.g dw 4)<|.a vE .b))) .c) .c) .c⟩
def O4:bH:=⟨3,[],5,.a (.c 3 (.g aM 54))<|.a (.c 4 (.g aM 55))<|.a (.d (.h .b (.g bE 5) (.g aM 56)) (.a .j .c) .c)<|.a (.g aM 55 (.m false (.u .b)))<|.a (.g bW 44 (.B (.j 1 (.a bE<|.a (.d 48) .b)) cW bX))<|.a (.h (.s (.g aM 57) 10 (.a bW .b)))<|.a (.n (.a (.h (.j 46 (.a aM<|.a bE<|.a bW .b))) .c) (.a (.h (.s (.g aM 57) 37 .b))<|.a (.g aM 54 dw)<|.a (.g aM 55 dN) .c)) .c⟩
def O3:bH:=⟨2,[],2,.a (.g aM 40 bE)<|.a (.g aM 58 bX)<|.a (.g aM 59 (.d 51))<|.a (.g aM 60 (.d 52))<|.a (.g aM 61 (.n .h)) .c⟩
def O2:bH:=⟨2,[],2,.a (.f bE) .c⟩
def O1:bH:=⟨1,[],1,.a (.g aM 62 (.m false (.w .a))) .c⟩
def O0:bH:=⟨1,[],1,.a (.g aM 62 (.m false (.w .a))) .c⟩
noncomputable def OZ:bH:=⟨4,[],4,.a (.f (.n (.k ""))) .c⟩
def OY:bH:=⟨4,[],4,.a (.f (.j 17 (.a (.g bE 40)<|.a dw .b))) .c⟩
def OX:bH:=⟨3,[],3,.a (.f (.D .c bW)) .c⟩
def OW:bH:=⟨7,[],7,.a (.h (.s bE 63 (.a jj<|.a gw<|.a (.p (.a (.s bE 64 (.a dw .b))<|.a (.s bE 64 (.a dN .b)) .b)) .b))) .c⟩
def OV:bH:=⟨4,[],4,.a (.f (.j 58 (.a (.g bE 40)<|.a bW<|.a dw .b))) .c⟩
def OU:bH:=⟨3,[],3,.a (.d (.A (.h .a bE bW) (.A (.h .b bW (.p (.a (.d 17)<|.a (.d 15)<|.a (.d 16) .b))) (.h .b bE (.p (.a (.d 2)<|.a (.d 16) .b))))) (.a (.f (.n (.g true))) .c) .c)<|.a (.d (.h .a bE (.d 17)) (.a (.f (.h .c bW (.d 2))) .c) .c)<|.a (.d (.z (.h .a bE (.d 21)) (.h .a bW (.d 47))) (.a (.f (.n (.g true))) .c) .c)<|.a (.f (.h .a (.j 12 (.a (.q (.g aM 9) bE) .b)) bW)) .c⟩
def OT:bH:=⟨3,[],7,.a (.c 3 (.m false (.u .b)))<|.a (.c 2 (.j 22 (.a aM<|.a bW .b)))<|.a (.k (.inl 4) (.a (.j 11 (.a aM<|.a (.j 22 (.a aM<|.a bE .b)) .b))) (.a (.c 5 (.n (.g false)))<|.a (.k (.inl 6) (.a (.j 11 (.a aM<|.a bW .b))) (.a (.d (.j 57 (.a aM<|.a dN<|.a jj .b)) (.a (.c 5 (.n (.g true))) .c) .c) .c))<|.a (.d (.F gw) (.a (.f (.p (.a (.n (.g false))<|.a (.m false (.u .b)) .b))) .c) .c)<|.a (.d (.z (.h .a dN (.d 17)) (.h .g bW (.p (.a (.d 17)<|.a (.d 15)<|.a (.d 16) .b)))) (.a (.c 3 (.m false (.u (.a (.d 53) .b)))) .c) .c) .c))<|.a (.f (.p (.a (.n (.g true))<|.a dw .b))) .c⟩
def OS:bH:=⟨8,[],8,.a (.g aM 40 bE)<|.a (.g aM 38 bW)<|.a (.g aM 65 dw)<|.a (.g aM 45 dN)<|.a (.g aM 66 gw)<|.a (.g aM 67 jj)<|.a (.g aM 68 wU)<|.a (.g aM 69 (.m false (.w .a)))<|.a (.g aM 70 (.E (.w .a)))<|.a (.g aM 71 (.m false (.w .a)))<|.a (.g aM 72 (.E (.w .a)))<|.a (.g aM 73 (.m false (.w .a)))<|.a (.g aM 28 (.m false (.w .a)))<|.a (.g aM 74 (.m false (.w .a)))<|.a (.g aM 75 (.m false (.w .a)))<|.a (.g aM 76 (.m false (.w .a)))<|.a (.g aM 77 (.m false (.w .a)))<|.a (.g aM 54 (.m false (.u .b)))<|.a (.g aM 57 (.E (.u .b)))<|.a (.g aM 55 (.m false (.u .b)))<|.a (.g aM 78 (.E (.u .b)))<|.a (.g aM 79 (.m false (.u .b)))<|.a (.g aM 80 (.m false (.u .b)))<|.a (.g aM 81 (.m false (.w .a)))<|.a (.g aM 82 (.m false (.w .a)))<|.a (.g aM 83 (.m false (.w .a)))<|.a (.g aM 84 (.m false (.w .a)))<|.a (.g aM 85 (.m false (.w .a)))<|.a (.g aM 86 (.m false (.w .a)))<|.a (.g aM 87 (.m false (.w .a)))<|.a (.g aM 88 (.m false (.w .a)))<|.a (.g aM 89 (.m false (.w .a)))<|.a (.g aM 90 (.m false (.w .a)))<|.a (.g aM 91 (.m false (.w .a)))<|.a (.g aM 92 (.m false (.w .a)))<|.a (.g aM 48 (.E (.w .a)))<|.a (.g aM 93 (.m false (.w .a)))<|.a (.g aM 94 (.m false (.w .a)))<|.a (.g aM 95 (.m false (.w .a)))<|.a (.g aM 56 (.m false (.w .a)))<|.a (.g aM 96 (.m false (.w .a)))<|.a (.g aM 97 (.m false (.w .a)))<|.a (.g aM 98 (.m false (.w .a)))<|.a (.g aM 99 (.m false (.w .a)))<|.a (.g aM 100 (.m false (.w .a)))<|.a (.g aM 101 bX)<|.a (.g aM 102 (.m false (.w .a)))<|.a (.g aM 103 (.m false (.w .a)))<|.a (.g aM 104 (.n .h))<|.a (.g aM 46 (.n .h))<|.a (.g aM 49 (.C 12 .b))<|.a (.g aM 105 (.C 10 .b))<|.a (.g aM 106 (.C 11 .b))<|.a (.g aM 107 (.C 14 .b))<|.a (.g aM 108 (.C 15 .b))<|.a (.g aM 109 (.C 17 .b))<|.a (.g aM 110 (.C 16 .b))<|.a (.g aM 58 bX) .c⟩
def OR:bH:=⟨3,[],3,.a (.f (.j 67 (.a aM<|.a bE<|.a bW .b))) .c⟩
def OQ:bH:=⟨2,[],2,.a (.h (.j 68 (.a aM<|.a bE .b))) .c⟩
def OP:bH:=⟨5,[],5,.a (.f (.j 69 (.a aM<|.a (.n .h)<|.a bE<|.a bW<|.a dw<|.a dN .b))) .c⟩
def OO:bH:=⟨6,[],6,.a (.f (.j 69 (.a aM<|.a bE<|.a bW<|.a dw<|.a dN<|.a gw .b))) .c⟩
def ON:bH:=⟨4,[],4,.a (.h (.s aM 63 (.a bE<|.a (.g bW 4)<|.a dw .b))) .c⟩
def OM:bH:=⟨4,[],5,.a (.k (.inl 4) (.a (.g (.g aM 67) 9)) (.a (.d (.z (.h .a (.g dN 6) bE) (.z (.h .a (.g dN 4) bW) (.h .a (.g dN 7) dw))) (.a .j .c) .c) .c))<|.a (.h (.s (.g aM 67) 20 (.a bE<|.a bW<|.a dw .b))) .c⟩
def OL:bH:=⟨2,[],2,.a (.f (.s (.g aM 49) 64 (.a aM<|.a bE .b))) .c⟩
def OJ:bH:=⟨3,[],4,.a (.d (.h .b (.g bE 5) (.g aM 72)) (.a (.f (.q (.g aM 72) (.g bE 5))) .c) .c)<|.a .j<|.a .j<|.a .j<|.a (.n (.a .j .c) (.a .j .c))<|.a .j<|.a .j .c⟩
def Ng:bH:=⟨2,[],3,.a (.d (.h .g (.g bE 0) (.g aM 70)) (.a .j<|.a .j .c) .c)<|.a (.c 2 (.D .a (.g aM 79)))<|.a (.v aM 58 .a cW)<|.a (.n (.a (.d (.h .d (.g aM 58) (.d 54)) (.a .j .c) .c)<|.a (.h (.s (.q (.g aM 70) (.g bE 0)) 111 (.a aM<|.a bE .b)))<|.a (.m (.z (.h .a (.g aM 58) cW) (.h .d (.D .a (.g aM 79)) bW)) (.a .j .c)) .c) (.a (.v aM 58 .e cW) .c)) .c⟩
def OI:bH:=⟨6,[],9,.a (.d (.A (.h .a bW (.d 16)) (.h .a dw (.d 16))) (.a (.f (.n (.g true))) .c) .c)<|.a (.u [6,7] (.s (.g aM 49) 52 (.a aM<|.a bW<|.a dw .b)))<|.a (.d (.z jj (.h .a (.s (.g aM 49) 112 (.a aM<|.a bW<|.a dw .b)) (.n (.k "")))) (.a (.k (.inl 8) (.a wU) (.a (.h (.s (.g aM 68) 20 (.a xY<|.a dN .b))) .c))<|.a (.f (.n (.g true))) .c) .c)<|.a (.h (.s (.g aM 49) 113 (.a aM<|.a bE<|.a bW<|.a dw<|.a dN<|.a gw .b)))<|.a (.f (.n (.g false))) .c⟩
noncomputable def OH:bH:=⟨3,[],3,.a (.f (.n .h)) .c⟩
def OG:bH:=⟨3,[],3,.a (.d (.z (.g bW 42) (.h .g (.d 47) (.j 11 (.a (.g aM 40)<|.a (.s (.g aM 38) 39 (.a (.g bW 41) .b)) .b)))) (.a (.h (.s aM 114 (.a (.d 21)<|.a (.g bW 41)<|.a (.g bE 4)<|.a vE .b))) .c) .c) .c⟩
def Fx:bH:=⟨3,[],6,.a (.c 3 (.q (.g bW 2) bX))<|.a (.d (.F (.g bE 57)) (.a .j<|.a .j .c) .c)<|.a (.c 4 (.q (.g bE 57) (.G cW)))<|.a (.d (.A (.H (.g bE 45) false) (.h .c (.s (.g (.g bE 45) 4) 21 (.a (.g bW 5)<|.a cW .b)) bX)) (.a (.g dN 43 cW) .c) .c)<|.a (.d (.H dw false) (.a (.h (.j 71 (.a bE<|.a bW<|.a dN .b)))<|.a .p .c) .c)<|.a (.d (.g dN 44) (.a (.h (.s bE 51 (.a (.n (.d 2408))<|.a bW<|.a (.p .b) .b))) .c) .c)<|.a (.c 5 (.s bE 47 (.a dw<|.a (.g dN 41) .b)))<|.a (.d (.g dN 42) (.a (.h (.s bE 52 (.a dw<|.a gw<|.a (.g dN 41)<|.a (.g dw 4)<|.a vE .b))) .c) .c) .c⟩
def OF:bH:=⟨0,[],0,.a (.f (.m false (.w (.b wW BZ<|.b Cz BZ<|.b (.n (.d 32)) ID<|.b (.n (.d 128)) AB<|.b (.n (.d 256)) AB .a)))) .c⟩
def OE:bH:=⟨5,[.d 0],5,.a (.f (.C 0 (.a aM<|.a bE<|.a bW<|.a dN<|.a dw .b))) .c⟩
def OD:bH:=⟨1,[],5,.a (.c 1 (.u (.a aM .b)))<|.a (.c 2 bX)<|.a (.m (.h .d (.D .a bE) bX) (.a (.c 3 (.s bE 37 .b))<|.a (.r 2 .a cW)<|.a (.g dw 5 bW)<|.a (.q 1 (.x .a bE (.m false (.J dN (.inl 4) (.g dw 2) (.H dN true))))) .c)) .c⟩
def OC:bH:=⟨2,[],3,.a (.c 2 (.q aM bX))<|.a (.l aM bX (.x .a bW cW))<|.a (.f (.x .c (.B (.h .e bW (.D .a (.q aM cW))) (.q (.q aM cW) bW) (.x .a bW cW)) bE)) .c⟩
def OB:bH:=⟨1,[],4,.a (.c 1 (.s aM 20 (.a (.p (.a wW<|.a cW<|.a cW .b)) .b)))<|.a (.c 2 (.s aM 20 (.a (.p (.a Cz<|.a (.p (.a (.p (.a (.n (.k "p"))<|.a bE<|.a bX<|.a bX .b)) .b))<|.a (.p .b)<|.a (.p .b)<|.a (.p .b)<|.a (.p .b)<|.a cW .b)) .b)))<|.a (.c 3 (.m false (.u (.a (.p (.a (.s aM 20 (.a (.p (.a qy<|.a (.n (.k "a"))<|.a cW .b)) .b))<|.a wW<|.a cW .b))<|.a (.p (.a (.s aM 20 (.a (.p (.a qy<|.a (.n (.k "b"))<|.a bX .b)) .b))<|.a Cz<|.a bX .b))<|.a (.p (.a bE<|.a (.n (.d 32))<|.a cW .b))<|.a (.p (.a (.d 21)<|.a cW<|.a bX .b))<|.a (.p (.a (.d 6)<|.a BZ<|.a bX .b)) .b))))<|.a (.c 3 (.m false (.x .a dw (.m false (.u (.a (.p (.a (.d 11)<|.a (.n (.d 256))<|.a cW .b))<|.a (.p (.a (.d 20)<|.a qd<|.a bX .b))<|.a (.p (.a (.s aM 20 (.a (.p (.a qy<|.a (.n (.k "b"))<|.a cW .b)) .b))<|.a Cz<|.a cW .b))<|.a (.p (.a (.d 8)<|.a ID<|.a bX .b))<|.a (.p (.a (.d 13)<|.a (.n (.d 128))<|.a cW .b)) .b))))))<|.a (.f (.m false (.x .a dw (.m false (.u (.a (.p (.a (.d 47)<|.a DH<|.a bX .b))<|.a (.p (.a (.d 17)<|.a qp<|.a bX .b))<|.a (.p (.a (.d 2)<|.a bX<|.a bX .b))<|.a (.p (.a bW<|.a (.n (.d 1024))<|.a bX .b))<|.a (.p (.a (.d 15)<|.a qp<|.a bX .b))<|.a (.p (.a (.d 23)<|.a AB<|.a bX .b)) .b)))))) .c⟩
def t8:bH:=⟨1,[],5,.a (.c 1 (.s aM 20 (.a (.p (.a wW<|.a cW<|.a bX .b)) .b)))<|.a (.c 2 (.E (.w (.b (.d 6) BZ<|.b (.s aM 20 (.a (.p (.a qy<|.a (.n (.k "a"))<|.a bX .b)) .b)) wW<|.b (.s aM 20 (.a (.p (.a qy<|.a (.n (.k "b"))<|.a bX .b)) .b)) Cz<|.b (.d 8) ID<|.b bE (.n (.d 32))<|.b (.d 12) (.n (.d 256))<|.b (.d 14) (.n (.d 128)) .a))))<|.a (.k (.inr [3,4]) (.a (.p (.a (.p (.a (.d 21)<|.a cW .b))<|.a (.p (.a (.d 20)<|.a qd .b))<|.a (.p (.a (.d 47)<|.a DH .b))<|.a (.p (.a (.d 2)<|.a bX .b))<|.a (.p (.a (.s aM 20 (.a (.p (.a Cz<|.a (.p (.a (.p (.a (.n (.k "p"))<|.a bE<|.a bX<|.a bX .b)) .b))<|.a (.p .b)<|.a (.p .b)<|.a (.p .b)<|.a (.p .b)<|.a bX .b)) .b))<|.a (.n (.d 1024)) .b)) .b))) (.a (.l bW dw dN) .c))<|.a (.f bW) .c⟩
def OA:bH:=⟨1,[],3,.a (.c 1 (.j 17 (.a aM<|.a (.m false (.u (.a (.s aM 20 (.a (.p (.a wW<|.a cW<|.a bX .b)) .b))<|.a (.d 20) .b))) .b)))<|.a (.c 2 (.j 17 (.a aM<|.a (.m false (.u (.a (.s aM 20 (.a (.p (.a qy<|.a (.n (.k "a"))<|.a bX .b)) .b))<|.a (.d 8) .b))) .b)))<|.a (.f (.m false (.u (.a (.p (.a (.G cW)<|.a bX .b))<|.a (.p (.a (.d 6)<|.a bX .b))<|.a (.p (.a (.s aM 20 (.a (.p (.a qy<|.a (.n (.k "b"))<|.a bX .b)) .b))<|.a BZ .b))<|.a (.p (.a bE<|.a ID .b))<|.a (.p (.a (.d 23)<|.a AB .b))<|.a (.p (.a (.d 21)<|.a bX .b))<|.a (.p (.a bW<|.a BZ .b))<|.a (.p (.a (.d 47)<|.a bX .b)) .b)))) .c⟩
def Oz:bH:=⟨1,[],2,.a (.c 1 (.m false (.u (.a (.p (.a (.d 47)<|.a (.n (.d 513)) .b))<|.a (.p (.a (.j 17 (.a aM<|.a (.m false (.u (.a (.d 6)<|.a (.d 21) .b))) .b))<|.a (.n (.d 29)) .b))<|.a (.p (.a (.d 21)<|.a cW .b))<|.a (.p (.a (.d 17)<|.a qp .b))<|.a (.p (.a (.d 2)<|.a bX .b))<|.a (.p (.a (.d 8)<|.a ID .b)) .b))))<|.a (.c 1 (.m false (.x .a bE (.m false (.u (.a (.p (.a (.d 6)<|.a BZ .b))<|.a (.p (.a (.j 17 (.a aM<|.a (.m false (.u (.a (.s aM 20 (.a (.p (.a qy<|.a (.n (.k "a"))<|.a bX .b)) .b))<|.a (.d 8) .b))) .b))<|.a (.n (.d 100)) .b))<|.a (.p (.a (.d 15)<|.a qp .b)) .b))))))<|.a (.f (.m false (.x .a bE (.m false (.u (.a (.p (.a (.j 17 (.a aM<|.a (.m false (.u (.a (.d 47)<|.a (.d 6) .b))) .b))<|.a (.n (.d 541)) .b))<|.a (.p (.a (.d 23)<|.a AB .b))<|.a (.p (.a (.d 16)<|.a qp .b)) .b)))))) .c⟩
def Fw:bH:=⟨5,[],7,.a (.c 5 (.u .b))<|.a (.k (.inl 6) (.b (.x .a dN (.j 76 (.a aM<|.a qy .b)))) (.a (.h (.s gw 10 (.a (.j 82 (.a aM<|.a bE<|.a bW<|.a dw .b)) .b))) .c))<|.a (.f (.j 74 (.a (.d 55)<|.a (.n (.k ""))<|.a (.m true gw)<|.a (.q bE bX) .b))) .c⟩
def GF:bH:=⟨4,[],14,.a (.c 4 (.j 76 (.a aM<|.a (.n (.d 80)) .b)))<|.a (.c 5 (.x .c dN IE))<|.a (.c 6 (.q bE bX))<|.a (.l bE bX (.x .a jj qd))<|.a (.d (.h .e gw qy) (.a (.c 7 (.B (.h .e gw qd) (.j 74 (.a (.d 56)<|.a bX<|.a (.m false (.u .b))<|.a (.x .a jj cW) .b)) (.n .h)))<|.a (.c 8 (.j 74 (.a (.d 42)<|.a (.n (.k ""))<|.a (.m false (.u (.a wU .b)))<|.a jj .b)))<|.a (.h (.s (.q bE cW) 10 (.a (.p (.a xY<|.a (.B (.h .e gw qd) (.j 76 (.a aM<|.a (.n (.d 16)) .b)) (.G cW)) .b)) .b)))<|.a (.f xY) .c) .c)<|.a (.d (.h .a gw qy) (.a (.f (.j 74 (.a (.d 58)<|.a (.n (.k ""))<|.a (.m false (.u (.a (.j 74 (.a (.d 57)<|.a (.n (.k "x"))<|.a (.m false (.u .b))<|.a (.x .a jj cW) .b)) .b)))<|.a jj .b))) .c) .c)<|.a (.d (.h .a gw (.n (.d 9))) (.a (.c 9 (.j 74 (.a (.d 55)<|.a (.n (.k ""))<|.a (.m false (.u (.a (.j 74 (.a (.d 42)<|.a (.n (.k ""))<|.a (.m false (.u (.a (.j 74 (.a (.d 56)<|.a bX<|.a (.m false (.u .b))<|.a jj .b)) .b)))<|.a jj .b)) .b)))<|.a jj .b)))<|.a (.f (.j 74 (.a (.d 61)<|.a (.n (.k ""))<|.a (.m false (.u (.a (.j 74 (.a (.d 44)<|.a (.n (.k ""))<|.a (.m false (.u (.a (.n .h)<|.a (.j 74 (.a (.d 60)<|.a (.n (.k ""))<|.a (.m false (.u .b))<|.a jj .b))<|.a (.n .h)<|.a Aa .b)))<|.a jj<|.a (.d 59) .b)) .b)))<|.a jj .b))) .c) .c)<|.a (.d (.z (.h .a gw Cz) dw) (.a (.f (.j 74 (.a (.d 62)<|.a (.n (.k ""))<|.a (.m false (.u .b))<|.a jj .b))) .c) .c)<|.a (.d (.A (.h .e gw Na) (.A (.h .a gw Cz) (.h .a bW bX))) (.a (.c 10 (.B (.h .a gw wW) (.q (.m false (.u (.a (.n (.k "plain"))<|.a (.n (.k "never"))<|.a (.n (.k "late")) .b))) (.x .c (.x .f dN IE) qy)) (.n (.k "plain"))))<|.a (.f (.j 74 (.a (.d 61)<|.a (.n (.k ""))<|.a (.m false (.u (.a (.j 74 (.a (.d 63)<|.a zU<|.a (.m false (.u (.a (.j 74 (.a (.d 57)<|.a (.n (.k "g"))<|.a (.m false (.u .b))<|.a jj .b)) .b)))<|.a jj .b)) .b)))<|.a jj .b))) .c) .c)<|.a (.c 11 (.B (.h .a (.x .c (.x .f dN IE) qd) bX) (.d 64) (.d 65)))<|.a (.d (.h .a gw Xm) (.a (.c 12 (.j 74 (.a (.B (.h .a (.x .c (.x .f dN IE) qd) cW) (.d 57) (.d 64))<|.a (.n (.k "c"))<|.a (.m false (.u .b))<|.a jj .b)))<|.a (.f (.j 74 (.a (.d 66)<|.a (.n (.k ""))<|.a (.m false (.u (.a NP<|.a (.j 81 (.a aM<|.a bE<|.a (.x .e bW cW)<|.a (.n (.g true))<|.a bX .b)) .b)))<|.a jj .b))) .c) .c)<|.a (.c 12 (.j 74 (.a (.B (.h .a gw Na) (.d 57) zT)<|.a (.n (.k "c"))<|.a (.m false (.u .b))<|.a jj .b)))<|.a (.c 13 (.j 81 (.a aM<|.a bE<|.a (.x .e bW cW)<|.a dw<|.a bX .b)))<|.a (.f (.j 74 (.a (.d 67)<|.a (.n (.k ""))<|.a (.m false (.u (.a NP<|.a (.y 13)<|.a (.j 81 (.a aM<|.a bE<|.a (.x .e bW cW)<|.a dw<|.a bX .b)) .b)))<|.a jj .b))) .c⟩
def Ox:bH:=⟨2,[],4,.a (.c 2 (.J dw (.inl 3) bE (.h .d dw bX)))<|.a (.d (.h .e (.D .a bW) qd) (.a (.f (.q (.m false (.x .a bW (.m false (.u (.a bX .b))))) bX)) .c) .c)<|.a (.f (.s aM 115 (.a (.d 68)<|.a bW<|.a (.n .h)<|.a (.p .b) .b))) .c⟩
def Ow:bH:=⟨4,[],9,.a (.d (.A (.h .a bW bX) (.A (.h .a (.g bE 0) (.d 42)) (.h .a (.g bE 0) (.d 58)))) (.a (.f bX) .c) .c)<|.a (.d (.h .a (.g bE 0) (.d 62)) (.a (.h (.s dw 10 (.a bW .b)))<|.a (.f bX) .c) .c)<|.a (.d (.h .a (.g bE 0) (.d 55)) (.a (.k (.inl 4) (.a (.g bE 2)) (.a (.c 2 (.j 84 (.a aM<|.a dN<|.a bW<|.a dw .b))) .c))<|.a (.f bW) .c) .c)<|.a (.c 5 (.q (.g bE 2) bX))<|.a (.d (.h .a (.g bE 0) (.d 61)) (.a (.d (.h .a (.g gw 0) (.d 63)) (.a (.c 2 (.s aM 115 (.a (.d 31)<|.a (.u (.a bW .b))<|.a gw<|.a (.p (.a cW .b)) .b)))<|.a (.d (.h .c (.g gw 1) (.n (.k "late"))) (.a (.c 2 (.s aM 115 (.a (.d 31)<|.a (.u (.a bW .b))<|.a gw<|.a (.p .b) .b))) .c) .c) .c) .c)<|.a (.f bW) .c) .c)<|.a (.d (.h .a (.g bE 0) (.d 66)) (.a (.c 2 (.s aM 115 (.a (.d 69)<|.a (.u (.a bW .b))<|.a (.n .h)<|.a (.p .b) .b))) .c) .c)<|.a (.c 6 (.B (.h .a (.g gw 0) (.d 65)) bX (.s aM 115 (.a (.d 70)<|.a (.u (.a bW .b))<|.a gw<|.a (.p .b) .b))))<|.a (.c 7 (.B (.h .a (.g gw 0) (.d 64)) bX (.s aM 115 (.a (.d 71)<|.a (.u (.a bW .b))<|.a gw<|.a (.p .b) .b))))<|.a (.d (.h .a (.g bE 0) (.d 67)) (.a (.c 6 (.j 84 (.a aM<|.a (.q (.g bE 2) cW)<|.a jj<|.a dw .b)))<|.a (.f (.j 83 (.a aM<|.a (.m false (.u (.a jj<|.a (.j 84 (.a aM<|.a (.q (.g bE 2) qd)<|.a wU<|.a dw .b)) .b))) .b))) .c) .c)<|.a (.c 8 (.u .b))<|.a (.c 6 (.j 84 (.a aM<|.a (.q (.g bE 2) cW)<|.a jj<|.a xY .b)))<|.a (.d (.h .d jj bX) (.a (.h (.s (.q (.g aM 23) bW) 10 (.a jj .b))) .c) .c)<|.a (.f (.j 83 (.a aM<|.a (.m false (.x .a (.m false (.u (.a wU .b))) xY)) .b))) .c⟩
def Ov:bH:=⟨2,[],5,.a (.d (.A (.h .a (.g aM 0) (.d 42)) (.h .a (.g aM 0) (.d 58))) (.a (.f bX) .c) .c)<|.a (.d (.h .a (.g aM 0) (.d 62)) (.a (.f qd) .c) .c)<|.a (.d (.h .a (.g aM 0) (.d 55)) (.a (.c 2 cW)<|.a (.k (.inl 3) (.a (.g aM 2)) (.a (.d (.h .a (.x .b bW cW) cW) (.a (.c 2 (.x .d (.x .b bW qd) (.j 85 (.a dw<|.a bE .b)))) .c) .c) .c))<|.a (.f bW) .c) .c)<|.a (.c 4 (.q (.g aM 2) bX))<|.a (.d (.h .a (.g aM 0) (.d 61)) (.a (.f (.B (.z bE (.z (.h .a (.g dN 0) (.d 63)) (.h .a (.g dN 1) (.n (.k "never"))))) bX cW)) .c) .c)<|.a (.d (.h .a (.g aM 0) (.d 66)) (.a (.f (.B (.A (.h .a (.g dN 0) (.d 57)) (.h .a (.x .b (.j 85 (.a (.q (.g aM 2) cW)<|.a bE .b)) qd) qd)) cW bX)) .c) .c)<|.a (.d (.h .a (.g dN 0) (.d 57)) (.a (.f (.x .d (.j 85 (.a (.q (.g aM 2) cW)<|.a bE .b)) (.j 85 (.a (.q (.g aM 2) qd)<|.a bE .b)))) .c) .c)<|.a (.f (.j 85 (.a (.q (.g aM 2) (.B (.h .a (.g dN 0) (.d 64)) cW qd))<|.a bE .b))) .c⟩
def I7:bH:=⟨3,[],15,.a (.c 3 (.m false (.K Aa (.inr [9,10,11]) aM)))<|.a (.d (.A (.h .b (.d 17) dw) (.h .b (.d 15) dw)) (.a (.f (.p (.a (.B (.h .b (.d 17) dw) (.d 17) (.d 15))<|.a qp .b))) .c) .c)<|.a (.c 4 (.B bE cW bX))<|.a (.k (.inr [5,6,7]) (.a aM) (.a (.r 4 .d jj) .c))<|.a (.c 8 (.m false (.J NP (.inr [12,13,14]) aM (.z (.h .d (.y 13) bX) (.h .a EF bX)))))<|.a (.d (.z (.h .b dN (.j 73 .b)) (.z (.h .a (.D .a xY) bX) (.h .a (.x .b dN (.q bW cW)) bX))) (.a (.c 4 (.q (.j 73 .b) dN)) .c) .c)<|.a (.f (.p (.a (.G cW)<|.a dN .b))) .c⟩
def Ou:bH:=⟨2,[],2,.a (.d (.A (.h .a (.q bE bX) (.d 17)) (.A (.h .a (.q bE bX) (.d 15)) (.h .a (.q bE bX) (.d 16)))) (.a (.f (.n (.g true))) .c) .c)<|.a (.d (.h .a (.q aM bX) (.d 17)) (.a (.f (.h .c (.q bE bX) (.d 2))) .c) .c)<|.a (.f (.h .a (.x .d (.q aM cW) (.q bE cW)) (.q bE cW))) .c⟩
def Af:bH:=⟨5,[],11,.a (.c 5 (.u .b))<|.a (.c 6 (.u .b))<|.a (.c 7 (.h .a (.x .b (.q bE cW) (.n (.d 2560))) DH))<|.a (.k (.inr [8,9]) (.a aM) (.a (.d (.z (.h .a bW Na) (.h .f (.q Aa bX) bX)) (.a (.h (.s gw 10 (.a (.p (.a (.n (.d 2408))<|.a (.g xY 4) .b)) .b))) .c) .c)<|.a (.d (.z dw (.h .f (.q Aa bX) bX)) (.a (.c 10 (.B (.h .a bW wW) (.g xY 4) (.g (.q (.g xY 2) bX) 4)))<|.a (.d (.F (.j 87 (.a Aa<|.a bE .b))) (.a (.h (.s gw 10 (.a (.p (.a vE<|.a zU .b)) .b))) .c) (.a (.d (.z (.h .a (.q Aa bX) (.d 17)) (.h .g (.q bE bX) (.p (.a (.d 17)<|.a (.d 15)<|.a (.d 16) .b)))) (.a (.h (.s jj 10 (.a (.p (.a (.d 53)<|.a zU .b)) .b))) .c) .c) .c)) .c) (.a (.d (.z dw (.z (.F wU) (.F (.j 87 (.a (.p (.a (.d 21)<|.a cW<|.a bX .b))<|.a bE .b))))) (.a (.h (.s gw 10 (.a (.p (.a vE<|.a (.g xY 4) .b)) .b))) .c) .c) .c)) .c))<|.a (.d (.A (.F dw) (.A (.F dN) (.A (.h .a bW wW) (.A wU (.h .b (.q bE bX) (.p (.a (.d 17)<|.a (.d 16)<|.a (.d 21) .b))))))) (.a (.f (.p (.a (.m true gw)<|.a (.m true jj) .b))) .c) .c)<|.a (.d (.h .a (.q bE bX) (.d 2)) (.a (.h (.s gw 10 (.a (.p (.a (.n (.d 2534))<|.a Xm .b)) .b))) .c) (.a (.d (.h .a (.D .a aM) bX) (.a (.h (.s gw 10 (.a (.p (.a (.n (.d 2355))<|.a Xm .b)) .b))) .c) (.a (.d (.F (.j 87 (.a (.p (.a (.d 21)<|.a cW<|.a bX .b))<|.a bE .b))) (.a (.h (.s gw 10 (.a (.p (.a (.n (.d 2366))<|.a Xm .b)) .b))) .c) .c) .c)) .c))<|.a (.f (.p (.a (.m true gw)<|.a (.m true jj) .b))) .c⟩
def Ot:bH:=⟨5,[],11,.a (.c 5 (.C 18 (.a aM<|.a (.C 8 (.a aM .b))<|.a (.n .h)<|.a (.n .h)<|.a (.n .h)<|.a (.C 2 .b)<|.a (.C 3 .b) .b)))<|.a (.g gw 49 (.C 13 .b))<|.a (.c 6 (.E (.w .a)))<|.a (.d (.z (.h .e dw qd) (.H bE true)) (.a (.g gw 45 dN)<|.a (.c 7 (.s dN 115 (.a (.d 33)<|.a (.u .b)<|.a bW<|.a (.p .b) .b)))<|.a (.l (.g dN 26) (.g bW 5) (.j 84 (.a dN<|.a bE<|.a wU<|.a (.u .b) .b)))<|.a (.c 8 (.u (.a bE .b)))<|.a (.m (.h .d (.D .a xY) bX) (.a (.c 9 (.s xY 37 .b))<|.a (.d (.z (.h .a (.g Aa 0) (.d 63)) (.h .c (.g Aa 1) (.n (.k "plain")))) (.a (.l jj (.g Aa 5) cW) .c) .c)<|.a (.q 8 (.x .a xY (.m false (.J zU (.inl 10) (.g Aa 2) (.z (.H zU true) (.h .c (.g Aa 0) (.d 44))))))) .c)) .c) .c)<|.a (.d (.h .a dw cW) (.a (.g gw 46 (.C 6 (.a jj<|.a (.m false (.w .a)) .b))) .c) .c)<|.a (.l (.g gw 70) (.d 55) (.C 19 .b))<|.a (.l (.g gw 70) (.d 42) (.C 20 .b))<|.a (.f gw) .c⟩
def t7:bH:=⟨1,[],37,.a (.c 1 (.E (.u (.a bX<|.a (.m false (.K (.y 33) (.inl 33) (.m false (.I aM none (some 40))))) .b))))<|.a (.c 2 (.C 4 .b))<|.a (.c 3 (.j 76 (.a bE<|.a (.n (.d 192)) .b)))<|.a (.c 4 (.x .c dw Cz))<|.a (.c 5 (.z (.h .a (.x .c (.x .f dw Cz) qd) cW) (.h .g dN (.p (.a Na<|.a YK .b)))))<|.a (.c 6 (.x .c (.x .f dw (.n (.d 16))) qy))<|.a (.c 7 (.q (.j 79 (.a bW .b)) (.j 76 (.a bE<|.a Cz .b))))<|.a (.c 8 (.q (.j 80 (.a bW .b)) (.j 76 (.a bE<|.a (.n (.d 12)) .b))))<|.a (.c 9 (.j 77 (.a bW .b)))<|.a (.c 10 (.E (.u (.a IE<|.a (.E (.u .b)) .b))))<|.a (.d (.z (.h .a (.x .f dw (.n (.d 48))) qy) (.z (.h .a (.x .c dN qd) bX) (.h .e dN wW))) (.a (.c 11 (.n .h)) .c) (.a (.d (.h .a dN wW) (.a (.c 11 (.j 74 (.a (.d 56)<|.a bX<|.a (.m false (.u .b))<|.a Cz .b)))<|.a (.h (.s (.q zU cW) 10 (.a (.p (.a zT<|.a (.j 76 (.a bE<|.a (.n (.d 16)) .b)) .b)) .b))) .c) (.a (.c 11 (.j 81 (.a bE<|.a zU<|.a qd<|.a (.n (.g false))<|.a cW .b))) .c)) .c))<|.a (.c 12 (.q (.m false (.u (.a (.d 46)<|.a (.d 59)<|.a (.d 72)<|.a (.d 72)<|.a (.x .a (.d 59) (.d 50))<|.a (.x .a (.d 48) (.d 72))<|.a (.d 49)<|.a (.x .a (.d 45) (.d 72)) .b))) dN))<|.a (.c 13 (.m false (.u (.a (.n .h)<|.a (.j 74 (.a (.d 60)<|.a (.n (.k ""))<|.a (.m false (.u .b))<|.a YK .b))<|.a (.B gw (.j 74 (.a (.d 73)<|.a (.n (.k "string"))<|.a (.m false (.u .b))<|.a Xm .b)) (.n .h))<|.a zT .b))))<|.a (.c 14 (.j 74 (.a (.d 44)<|.a (.n (.k "f"))<|.a (.y 13)<|.a Na<|.a NP .b)))<|.a (.h (.j 75 (.a EF .b)))<|.a (.c 15 (.C 5 .b))<|.a (.c 16 (.j 89 (.a bW<|.a (.B (.h .c dN wW) zT (.n .h))<|.a EF<|.a jj<|.a (.y 15) .b)))<|.a (.c 17 (.E (.u .b)))<|.a (.k (.inr [18,19]) (.a (.q zU cW)) (.a (.d (.h .f NN bX) (.a (.l (.g oE 72) (.B (.h .a dN wW) (.g NO 5) (.g (.q (.g NO 2) bX) 5)) (.q (.q Aa NN) bX)) .c) .c)<|.a (.h (.s IC 10 (.a (.p (.a NO<|.a (.B (.h .f NN bX) (.q Aa NN) (.p (.a (.G cW)<|.a bX<|.a bX .b))) .b)) .b))) .c))<|.a (.d (.h .a dN qy) (.a (.l (.g oE 48) (.g EF 5) cW) .c) .c)<|.a (.c 20 (.A (.H zT false) (.A (.h .a dN wW) (.A (.h .a jj qd) (.h .a (.x .b (.j 85 (.a zT<|.a (.h .a jj cW) .b)) cW) cW)))))<|.a (.c 21 (.m false (.J (.y 35) (.inr [34,35]) IC (.h .f (.q (.y 35) bX) bX))))<|.a (.c 22 (.z (.h .c dN wW) (.A (.y 20) (.h .e (.D .a (.y 21)) (.D .a IC)))))<|.a (.c 23 (.j 86 (.a (.y 21)<|.a (.y 22)<|.a wU .b)))<|.a (.d (.A (.h .a dN Na) (.h .a dN YK)) (.a (.c 23 (.p (.a (.d 47)<|.a DH .b))) .c) (.a (.d (.H zT false) (.a (.c 23 (.p (.a (.d 17)<|.a qp .b))) .c) (.a (.d (.h .a (.D .a (.y 21)) bX) (.a (.c 23 (.p (.a (.B (.h .a (.q wU bX) (.d 21)) (.d 21) (.d 47))<|.a bX .b)))<|.a (.d (.z (.F (.y 22)) (.A (.h .a dN cW) (.h .a dN qd))) (.a (.c 23 (.p (.a (.d 2)<|.a bX .b))) .c) .c) .c) .c) .c)) .c))<|.a (.c 24 (.j 44 (.a oE<|.a EF<|.a (.B (.h .e (.q wU bX) bX) (.G cW) (.j 10 (.a bW<|.a (.p .b)<|.a (.p .b)<|.a (.q wU bX) .b))) .b)))<|.a (.d (.z (.h .f (.q NK bX) bX) (.h .c NJ (.q NK bX))) (.a .j .c) .c)<|.a (.c 25 (.j 78 (.a bW .b)))<|.a (.c 26 bX)<|.a (.k (.inl 27) (.a (.B (.h .a (.q (.q (.g bW 9) NJ) bX) (.d 3)) (.q (.q (.g bW 9) NJ) cW) (.p (.a NJ .b)))) (.a (.r 26 .d (.s (.y 25) 21 (.a (.y 27)<|.a (.n (.d 8192)) .b))) .c))<|.a (.d (.A (.z (.h .e (.q NK bX) bX) (.h .c (.y 26) (.q NK cW))) (.A (.h .c (.g (.g oE 67) 9) (.m false (.u .b))) (.h .c (.g (.g oE 68) 9) (.m false (.u .b))))) (.a .j .c) .c)<|.a (.d (.H zT false) (.a (.f (.n (.g true))) .c) .c)<|.a (.c 28 (.C 7 (.a (.B gw (.q xY bX) (.q wU bX))<|.a (.B gw cW bX) .b)))<|.a (.g (.y 28) 44 (.B (.h .a dN Na) cW bX))<|.a (.h (.s (.g oE 57) 10 (.a (.y 28) .b)))<|.a (.k (.inr [18,29]) (.a (.B (.h .c dN wW) IC (.m false (.u .b)))) (.a (.h (.s oE 53 (.a NO .b))) .c))<|.a (.h (.s (.g oE 57) 37 .b))<|.a (.g oE 54 (.m false (.u (.a qy .b))))<|.a (.g oE 55 (.m false (.u (.a cW .b))))<|.a (.h (.j 47 (.a oE<|.a EF<|.a (.y 28) .b)))<|.a (.u [30,31] (.j 88 (.a IC<|.a xY<|.a dN<|.a gw<|.a (.y 20) .b)))<|.a (.c 32 (.m false (.K (.p (.a (.g (.y 36) 6)<|.a (.g (.y 36) 4) .b)) (.inl 36) (.g (.g oE 67) 9))))<|.a (.f (.z (.h .a (.y 32) (.y 30)) (.z (.h .a (.g (.g oE 68) 9) (.y 31)) (.h .a (.p (.a (.g oE 57)<|.a (.g oE 54)<|.a (.g oE 55) .b)) (.p (.a (.m false (.u .b))<|.a (.m false (.u (.a qy .b)))<|.a (.m false (.u (.a cW .b))) .b)))))) .c⟩
noncomputable def c0:iJ:=⟨some 0,true,[0,1,2,3,4],[]⟩
noncomputable def c1:iJ:=⟨some 2,true,[6,4,7,8],[]⟩
noncomputable def c2:iJ:=⟨some 3,false,[],[(20,4)]⟩
noncomputable def c3:iJ:=⟨some 5,false,[],[(20,6)]⟩
noncomputable def c4:iJ:=⟨some 7,false,[],[(20,8)]⟩
noncomputable def c5:iJ:=⟨some 25,false,[],[(115,26)]⟩
noncomputable def c6:iJ:=⟨some 27,true,[35,36],[(26,28)]⟩
noncomputable def c7:iJ:=⟨some 38,false,[],[]⟩
noncomputable def c8:iJ:=⟨some 48,false,[],[(39,49),(65,91),(52,92)]⟩
noncomputable def c9:iJ:=⟨none,false,[],[(111,93)]⟩
noncomputable def c10:iJ:=⟨none,false,[],[]⟩
noncomputable def c11:iJ:=⟨some 50,false,[],[]⟩
noncomputable def c12:iJ:=⟨some 51,false,[],[(52,94),(112,52),(50,53),(64,54),(113,55)]⟩
noncomputable def c13:iJ:=⟨some 51,false,[],[(52,56),(112,52),(50,53),(64,54),(113,55)]⟩
noncomputable def c14:iJ:=⟨none,false,[],[(15,95)]⟩
noncomputable def c15:iJ:=⟨none,false,[],[(62,96)]⟩
noncomputable def c16:iJ:=⟨none,false,[],[]⟩
noncomputable def c17:iJ:=⟨none,false,[],[(111,97)]⟩
noncomputable def c18:iJ:=⟨some 59,false,[],[(47,60),(53,61),(114,62),(52,63),(51,64),(63,65),(64,66),(62,98)]⟩
noncomputable def c19:iJ:=⟨none,false,[],[(111,70)]⟩
noncomputable def c20:iJ:=⟨none,false,[],[(111,72)]⟩
def jL:List bH:=[f0,f1,f2,f3,f4,f5,f6,f7,f8,f9,PJ,PI,PG,PF,PE,PD,PC,PB,PA,Pz,Py,Px,Pw,Pu,I9,Pr,Pq,Pp,Po,Pn,Pk,Pj,Ph,Pg,Pf,Pe,Pd,Pc,Pb,Pa,O9,O8,O7,O6,O5,Nh,I8,O4,O3,O2,O1,O0,OZ,OY,OX,OW,OV,OU,OT,OS,OR,OQ,OP,OO,ON,OM,OL,OJ,Ng,OI,OH,OG,Fx,OF,OE,OD,OC,OB,t8,OA,Oz,Fw,GF,Ox,Ow,Ov,I7,Ou,Af,Ot,t7]
def Wo:List iJ:=[c0,c1,c2,c3,c4,c5,c6,c7,c8,c9,c10,c11,c12,c13,c14,c15,c16,c17,c18,c19,c20]
def gX(c:Nat):Option iJ:=Wo[c]?
noncomputable def Z8:S3:=[.f [.f [.d 1,.k "any"],.f [.d 1,.k "unknown"],.f [.d 1,.k "never"],.f [.d 1,.k "void"],.f [.d 1,.k "undefined"],.f [.d 1,.k "null"],.f [.d 1,.k "string"],.f [.d 1,.k "number"],.f [.d 2,.d 0,.d 0],.f [.d 2,.d 1,.d 0],.f [.d 1,.k "object"],(.f [.d 8,.f [],.f [],.f [],.f [],.f [],.d 0]),(.f [.d 6,.f [.d 8,.d 9]]),.f [.d 1,.k "error"],.f [.d 2,.d 0,.d 1],.f [.d 2,.d 1,.d 1]],.d 13,.d 2,.d 6,.d 18,.d 3,.d 6,.d 4,.d 7,.d 5,.f [.d 2,.d 3,.d 4,.d 5,.d 8],.d 15,.d 9,.d 14,.d 8,.d 1,.d 13,.d 0,.d 400,.f [.d 2,.d 3,.d 4,.d 5],.d 5,.d 4,.d 2,.d 12,.d 1,.d 3,.f [.d 8,.d 9,.d 11,.d 12,.d 13],.d 7,.d 1,.d 2,.d 0,.d 7,.d 8,.d 1,.d 60,.d 8,.d 11,.d 12,.d 14,.d 16,.d 15,.d 10,.d 52,.d 61,.d 27,.d 64,.d 16,.d 3,.d 128,.d 256,.d 8,.d 200,.d 40,.d 1,.d 50,.d 59,.d 1,.d 8,.d 56,.d 4,.d 71,.d 43,.d 53,.d 18,.d 4,.d 5,.d 45,.d 44,.d 2,.d 3,.d 5,.d 6,.d 32,.d 80]
def IJ(k:Nat):aaf:=Z8[k]?
noncomputable def SJ:aab:=
 let o:=Str.ofString
 [o "FIRST_ROWS",o "Y_SIG",o "NEVER",o "Y_UNION",o "Y_TPL",o "Y_STR",o "STRING",o "Y_NUM",o "NUMBER",o "Y_ENUM",o "MARKED_ROWS",o "FRESH_T",o "TRUE_T",o "FRESH_F",o "FALSE_T",o "UNKNOWN",o "ERR",o "ANY",o "MAX_UNION",o "LITERAL_ROWS",o "NULLT",o "UNDEF",o "Y_BOOL",o "BOOLEAN",o "Y_KEY",o "FAM_BOOL",o "OBJECT_ROWS",o "Y_INTER",o "FAM_STR",o "FAM_NUM",o "L_DEAD",o "L_CALL",o "L_CASE",o "L_START",o "MOST_WRITTEN",o "Y_OBJ",o "Y_ARRAY",o "Y_TUPLE",o "Y_KEYOF",o "Y_COND",o "Y_INDEX",o "Y_PARAM",o "K_RETURN",o "K_CLASS",o "K_FUNC",o "F_GET",o "F_DECL",o "VOID",o "F_SET",o "F_CTOR",o "F_EXPRBODY",o "MOST_ROUNDS",o "MOST_SHAPES",o "U_ANY",o "MOST_DEEP",o "_law_k_block",o "_law_k_num",o "K_NAME",o "_law_k_throw",o "_law_f_arrow",o "_law_k_list",o "_law_k_exprst",o "_law_k_break",o "_law_k_call",o "_law_k_true",o "_law_k_false",o "_law_k_while",o "_law_k_if",o "_law_l_join",o "_law_l_loop",o "_law_l_true",o "_law_l_false",o "_law_f_method",o "_law_k_tkey"]
noncomputable def iA:aab:=
 let o:=Str.ofString
 [o "kind",o "a",o "kids",o "flags",o "at",o "nid",o "number",o "args",o "file",o "rows",o "append",o "index",o "decls",o "bounds",o "defaults",o "names",o "origins",o "renamed",o "shaping",o "putting",o "put",o "get",o "kinds",o "prevs",o "nodes",o "extras",o "ends",o "starts",o "busy",o "sets",o "hidden",o "memo",o "open",o "hits",o "epoch",o "never",o "full",o "pop",o "host",o "force",o "tab",o "wanted",o "written",o "valued",o "setter",o "graph",o "stops",o "expr",o "owners",o "judge",o "reduced",o "fault",o "fits",o "stmt",o "inside",o "chains",o "rounds",o "rets",o "deep",o "most_rounds",o "most_deep",o "lib",o "given",o "tell",o "words",o "bound",o "namer",o "diags",o "notes",o "exprs",o "stmts",o "sorts",o "types",o "declared",o "called",o "consts",o "sigs",o "bound_decls",o "trail",o "later",o "late",o "targets",o "globals",o "loops",o "roots",o "inits",o "paired",o "got_by",o "under",o "drawn",o "lent",o "dropped",o "marks",o "this_of",o "func_at",o "selves_of",o "callees",o "heads",o "banged",o "told_names",o "guesses",o "ready",o "const_enums",o "preset",o "asker",o "guard",o "roads",o "patterns",o "giver",o "funcs",o "places",o "check",o "excess",o "explain",o "wants",o "make"]

section
section
abbrev KV:=MV->St->Prop
abbrev KP:=PV->St->Prop
inductive Fl where
 |a
 |b (v:MV)
 |c
abbrev KX:=Fl->dj->St->Prop
abbrev CL:=Nat->WC->St->KP->Prop
noncomputable def PV.J:PV->aal
 |.d i=>some i
 |_=>Option.none
noncomputable def PV.O:PV->Option Str
 |.k i=>some i
 |_=>Option.none
noncomputable def PV.I:PV->Option (S3)
 |.f i=>some i
 |_=>Option.none
noncomputable def MV.I:MV->aaf
 |.a p=>some p
 |_=>none
noncomputable def MV.V:MV->aao
 |.e c k=>some (c,k)
 |_=>none
noncomputable def PV.i':PV->Option (S3)
 |.j vs=>some vs
 |_=>Option.none
noncomputable def PV.e':PV->Option (S3×S3)
 |.o ks vs=>some (ks,vs)
 |_=>Option.none
noncomputable def PV.d':PV->Option (Nat×S3)
 |.m c vs=>some (c,vs)
 |_=>Option.none
noncomputable def PV.c':PV->Option (Nat×S3)
 |.l i vs=>some (i,vs)
 |_=>Option.none
noncomputable def PV.V:PV->aap
 |.e i=>some i
 |_=>Option.none
noncomputable def PV.g':PV->Option (S1)
 |.n ns=>some ns
 |_=>Option.none
noncomputable def PV.f':PV->Option Unit
 |.p 0=>some ()
 |_=>Option.none
abbrev MV.O(v:MV):Option (S3):=v.I.bind PV.I
abbrev MV.d'(v:MV):Option (S3):=v.I.bind PV.i'
noncomputable def yo{α β:Type}(o:Option α)(x:β)(f:α->β):β:=Option.rec (motive:=λJ=>β) x f o
section
variable{α:Type}
def ob(o:Option α)(f:α->Prop):Prop:=Option.rec (motive:=λJ=>Prop) False f o
def gb(b:Bool)(x:Prop):Prop:=Bool.rec (motive:=λJ=>Prop) False x b
def tb(o:V8)(x y:Prop):Prop:=Option.rec (motive:=λJ=>Prop) False (λb=>Bool.rec (motive:=λJ=>Prop) x y b) o
def pb(v:MV)(f:PV->Prop):Prop:=MV.rec (motive:=λJ=>Prop) f (λJ J=>False) (λJ J=>False) v
def ib(v:PV)(f:Int->Prop):Prop:=Option.rec (motive:=λJ=>Prop) False f v.J
def lk(o:Option (S7))(f:MV->Prop):Prop:=Option.rec (motive:=λJ=>Prop) False (λo=>Option.rec (motive:=λJ=>Prop) False f o) o
def yb(o:Option α)(x:Prop)(f:α->Prop):Prop:=Option.rec (motive:=λJ=>Prop) x f o
def UV(rg:V5)(f:V6->V5->Prop):Prop:=List.rec (motive:=λJ=>Prop) False (λr rr J=>f r rr) rg
def fb(fl:Fl)(x y:Prop):Prop:=Fl.rec (motive:=λJ=>Prop) x (λJ=>y) y fl
def lb(fl:Fl)(x y:Prop):Prop:=Fl.rec (motive:=λJ=>Prop) x (λJ=>y) x fl
end
noncomputable def St.J(s:St)(f:V6->V6):St:=match s with
 |⟨p,r,n⟩=>⟨f p,r,n⟩
noncomputable def St.I(s:St)(f:V5->V5):St:=match s with
 |⟨p,r,n⟩=>⟨p,f r,n⟩
noncomputable def St.O(s:St)(f:S1->S1):St:=match s with
 |⟨p,r,n⟩=>⟨p,r,f n⟩
noncomputable def l9(s:St):MV->Option ah
 |.a (.e i)=>s.b[i]?
 |.b d i=>s.a[d]?.bind (·[i]?)
 |_=>none
noncomputable def eV:V5->Nat->Nat->ah->V5
 |r::rr,0,i,c=>r.set i c::rr
 |r::rr,d+1,i,c=>r::eV rr d i c
 |[],_,_,_=>[]
def pA(s:St)(v:MV)(c:ah):St:=match v with
 |.a (.e i)=>s.J (·.set i c)
 |.b d i=>s.I (eV · d i c)
 |_=>s
noncomputable def ah.J:ah->Option (S3)
 |.a vs=>some vs
 |_=>none
noncomputable def ah.I:ah->Option (List (S3))
 |.f vs=>some vs
 |_=>none
noncomputable def ah.V:ah->Option (Bool×S8)
 |.e b vs=>some (b,vs)
 |_=>none
noncomputable def ah.O:ah->Option (Nat×WL)
 |.g c as=>some (c,as)
 |_=>none
def iI(s:St)(v:MV):Option (S3):=yo v.d' (yo v.V ((l9 s v).bind ah.J) λp=>(s.b[p.1]?.bind ah.I).bind (·[p.2]?)) some
def B7(s:St)(v:MV):Option (Bool×S8):=yo (v.I.bind PV.e') ((l9 s v).bind ah.V) λp=>some (false,p.1.zip p.2)
def jT(c:ah)(s:St)(k:KV):Prop:=UV s.a λr rr=>k (.b 0 r.length) (s.I λJ=>(r++[c])::rr)
def Es(v:MV)(s:St)(k:ah->St->Prop):Prop:=match v with
 |.b 0 j=>UV s.a λr rr=>gb (Nat.beq (j+1) r.length) (ob r[j]? λc=>k c (s.I λJ=>r.dropLast::rr))
 |_=>False
noncomputable def MV.c':MV->aao
 |.b d i=>some (d,i)
 |_=>none
def Js(v:MV)(s:St)(k:ah->St->Prop):Prop:=ob v.c' λJ=>ob (l9 s v) λc=>k c (pA s v .d)
noncomputable def B5:ah->aaf
 |.a vs=>some (.j vs)
 |.e false kvs=>some (.o (kvs.map (·.1)) (kvs.map (·.2)))
 |_=>none
def zY(dead:Bool)(v:MV)(s:St)(k:KV):Prop:=match v with
 |.a p=>k (.a p) s
 |v=>(match dead with|true=>Js v s|false=>Es v s) λc s=>ob (B5 c) λp=>k (.a p) s
def Jp(v:MV)(s:St)(k:KV):Prop:=Es v s λc s=>k (.a (.e s.b.length)) (s.J (· ++[c]))
noncomputable def kx(o r:V8):V8:=match o with
 |some true=>r
 |some false=>some false
 |none=>none
mutual
def rN:PV->PV->V8
 |.d a,b=>b.J.map (a== ·)
 |.k a,b=>b.O.map (a== ·)
 |.f a,b=>b.I.bind (sH a)
 |_,_=>none
def sH:S3->S3->V8
 |[],b=>some b.isEmpty
 |a::as,b=>match b with
  |[]=>some false
  |b::bs=>kx (rN a b) (sH as bs)
end
def fB(k:PV)(e:PV×PV):Bool:=rN e.1 k==some true
def bA(k:PV)(kvs:S8):aaf:=(kvs.find? (fB k)).map (·.2)
noncomputable def cY(k v:PV):S8->S8
 |[]=>[(k,v)]
 |e::r=>if fB k e then(e.1,v)::r else e::cY k v r
noncomputable def IF:PV->Bool
 |.d _=>true
 |.k _=>true
 |_=>false
noncomputable def bQ:Nat->PV->Bool
 |0,v=>IF v
 |d+1,v=>match v with
  |.f vs=>vs.all (bQ d)
  |v=>IF v
abbrev j0(d:Nat)(vs:S3):Bool:=vs.all (bQ d)
noncomputable def isInt:PV->Bool
 |.d _=>true
 |_=>false
def Yd:Nat->PV->Bool
 |0,v=>isInt v
 |1,v=>v.O.isSome
 |2,v=>match v.I with
  |some vs=>vs.all isInt
  |none=>false
 |_,v=>match v.I with
  |some vs=>vs.all λw=>match w.I with
   |some [a,b,c,d]=>a.O.isSome&&isInt b&&isInt c&&isInt d
   |_=>false
  |none=>false
noncomputable def dq:S5->S3->Bool
 |[],[]=>true
 |n::l,v::r=>Yd n v&&dq l r
 |_,_=>false
noncomputable def Zu:Int->S5
 |1=>[1]
 |2=>[0,0]
 |3=>[1,0]
 |4=>[0,0]
 |6=>[2]
 |8=>[3,2,2,2,2,0]
 |13=>[2,2,0,2,0]
 |_=>[4]
def zP(v:PV):Bool:=match v.I with
 |some (.d c::q)=>dq (Zu c) q
 |_=>false
def iQ(XU:Bool)(k:PV):Bool:=match XU with
 |true=>zP k
 |false=>isInt k
def dB(s:St):MV->V8
 |.a .h=>some false
 |.a (.g b)=>some b
 |.a (.d i)=>some (i != 0)
 |v=>(iI s v).map λvs=> !vs.isEmpty
noncomputable def nA(op:vn)(x y:Int):aal:=match op with
 |.a=>some (x+y)
 |.e=>some (x-y)
 |.c=>if y=0 then none else some (x.fmod y)
 |.f=>if 0<=x/\x<1000000/\0<y/\y<1000000 then some (x.fdiv y)else none
 |.b=>some (Builtin.bitAnd x y)
 |.d=>some (Builtin.bitOr x y)
noncomputable def AE:vn->Bool
 |.a=>true
 |_=>false
def AP{α:Type}(f:PV->Option α)(a b:MV):Option (α×α):=(a.I.bind f).bind λx=>(b.I.bind f).map λy=>(x,y)
def tF(op:vn)(a b:MV)(s:St)(k:KV):Prop:=yb (AP PV.J a b) (yb (AP PV.I a b)
 (ob (iI s a) λxs=>ob (iI s b) λys=>gb (AE op&&decide (xs.length+ys.length<=100000)) (jT (.a (xs++ys)) s k))
 λp=>gb (AE op&&decide (p.1.length+p.2.length<=1000)) (k (.a (.f (p.1++p.2))) s)) λp=>ob (nA op p.1 p.2) λz=>k (.a (.d z)) s
def CB(s:St)(a b:MV):V8:=(iI s a).bind λxs=>(iI s b).bind λys=>if j0 3 xs&&j0 3 ys then(if xs.length=ys.length then sH xs ys else some false)else none
noncomputable def EN(s:St):S3->S3->V8
 |[],[]=>some true
 |a::as,b::bs=>(CB s (.a a) (.a b)).bind λx=>(EN s as bs).map (x&& ·)
 |_,_=>none
def DQ(s:St)(a b:MV):V8:=yo (AP PV.J a b) (yo (AP PV.O a b) (yo (AP PV.I a b) (CB s a b) λp=>if j0 3 p.1&&j0 3 p.2 then sH p.1 p.2 else EN s p.1 p.2) λp=>some (p.1==p.2)) λp=>some (p.1==p.2)
def AA(s:St)(a b:MV):V8:=yo (AP PV.J a b) (yo (AP PV.O a b) ((iI s a).bind λxs=>(iI s b).bind λys=>if xs.length=ys.length then(if xs.length=0 then some false else none)else some true) λp=>some (p.1 != p.2)) λp=>some (p.1 != p.2)
def jK(k:PV)(vs:S3):V8:=if isInt k&&vs.all isInt then some (vs.any λv=>rN v k==some true)else none
def tu(s:St)(a:PV)(b:MV):V8:=yo b.O (yo (iI s b) ((B7 s b).bind λd=>if iQ d.1 a then some (bA a d.2).isSome else none) (jK a)) (jK a)
noncomputable def Fk(op:PM)(x y:Int):V8:=match op with
 |.e=>some (decide (x<y))
 |.h=>some (decide (x<=y))
 |.d=>some (decide (x>y))
 |.f=>some (decide (x>=y))
 |_=>none
def AL(op:PM)(a b:MV)(s:St)(k:Bool->Prop):Prop:=match op with
 |.a=>ob (DQ s a b) k
 |.c=>ob (AA s a b) k
 |.b=>pb a λa=>ob (tu s a b) k
 |.g=>pb a λa=>ob (tu s a b) λb=>k (!b)
 |op=>pb a λa=>pb b λb=>ib a λx=>ib b λy=>ob (Fk op x y) k
noncomputable def kI(vs:S3)(k:Int):aaf:=if 0<=k then vs[k.toNat]? else if k= -1 then vs.getLast? else none
def nD(o i:MV)(s:St)(k:MV->Prop):Prop:=pb i λi=>yb o.O (yb (iI s o) (yb (B7 s o)
 (ob (o.I.bind PV.V) λc=>ob (s.b[c]?.bind ah.I) λeK=>ib i λj=>gb (decide (0<=j/\j.toNat<eK.length)) (k (.e c j.toNat)))
 λd=>gb (iQ d.1 i) (ob (bA i d.2) λv=>k (.a v))) λvs=>ib i λj=>ob (kI vs j) λv=>k (.a v)) λvs=>ib i λj=>ob (kI vs j) λv=>k (.a v)
noncomputable def iE(n:Nat):WL->aaf
 |[]=>none
 |e::r=>if e.1=n then some e.2 else iE n r
noncomputable def z4(n:Nat)(v:PV):WL->WL
 |[]=>[(n,v)]
 |e::r=>if e.1=n then(n,v)::r else e::z4 n v r
noncomputable def uO:S8->Option (S1)
 |[]=>some []
 |e::r=>e.1.J.bind λk=>(uO r).map (k:: ·)
noncomputable def ig(k:Int):S1->S1
 |[]=>[k]
 |x::r=>if k<=x then k::x::r else x::ig k r
noncomputable def mu:S1->S1
 |[]=>[]
 |x::r=>ig x (mu r)
def bi(b:BI)(v:MV)(s:St)(k:KV):Prop:=match b with
 |.a=>ob (iI s v) λvs=>k (.a (.d vs.length)) s
 |.d=>ob (B7 s v) λd=>gb (!d.1) (ob (uO d.2) λks=>gb (decide (ks.length<64)) (jT (.a ((mu ks).map .d)) s k))
 |.b=>yb v.O (ob (iI s v) λvs=>gb (decide (vs.length<=1000)) (k (.a (.f vs)) s)) λvs=>k (.a (.f vs)) s
 |.c=>pb v λv=>ib v λj=>gb (decide (0<=j/\j<10000000000)) (k (.a (.k (Str.ofString (toString j)))) s)
def rD(o i v:MV)(s:St)(k:St->Prop):Prop:=pb i λi=>pb v λv=>ob (l9 s o) λc=>yb c.J
 (ob c.V λd=>gb (iQ d.1 i&&decide (d.2.length<100000)) (k (pA s o (.e d.1 (cY i v d.2)))))
 λvs=>ib i λj=>gb (decide (0<=j/\j.toNat<vs.length)) (k (pA s o (.a (vs.set j.toNat v))))
inductive It where
 |a (vs:S3)
 |b (v:MV)
 |c (n:Nat)
def Ez(v:MV)(s:St):Option It:=yo v.O (yo v.d' ((iI s v).map λJ=>.b v) λvs=>some (.a vs)) λvs=>some (.a vs)
def iC(it:It)(s:St):Nat:=match it with
 |.a vs=>vs.length
 |.b v=>((iI s v).getD []).length
 |.c n=>n
def mw(it:It)(k:Nat)(s:St):Option (aaf):=match it with
 |.a vs=>some vs[k]?
 |.b v=>(iI s v).map λvs=>vs[k]?
 |.c n=>some (if k<n then some (.d k)else none)
noncomputable def I0:MV->Bool
 |.a .h=>true
 |_=>false
def sU(k d:PV)(f:PV->Prop):Prop:=ib k λk=>f (if k=3 then .d 6 else if k=4 then .d 5 else if k=5 then .d 4 else if k=6 then .d 1 else if k=7 then .d 2 else if k=10 then .d 7 else d)
def JM(o:MV)(lo hi:aal)(s:St)(k:KV):Prop:=gb lo.isNone (ob hi λj=>yb (o.I.bind PV.g') (yb o.O
 (ob (iI s o) λvs=>gb (decide (0<=j/\j<1000000)) (jT (.a (vs.take j.toNat)) s k))
 λvs=>gb (decide (j= -1/\0<vs.length/\vs.length<=1000)) (k (.a (.f vs.dropLast)) s)) λns=>gb (decide (0<=j/\j<1000000)) (jT (.a ((ns.take j.toNat).map .d)) s k))
def eU(tgt:Nat ⊕ S5)(v:MV)(loc:dj)(k:dj->Prop):Prop:=match tgt with
 |.inl i=>k (loc.set i (some v))
 |.inr is=>pb v λv=>match v with
  |.f vs=>gb (Nat.beq vs.length is.length) (k ((is.zip vs).foldl (λl p=>l.set p.1 (some (.a p.2))) loc))
  |_=>False
noncomputable def gQ(tgt:Nat ⊕ S5)(loc:dj):dj:=match tgt with
 |.inl i=>loc.set i none
 |.inr is=>is.foldl (λl i=>l.set i none) loc
abbrev EV:=dj->St->KV->Prop
abbrev XV:=dj->St->KX->Prop
def compLoop(tgt:Nat ⊕ S5)(it:It)(cQ gF:EV)(loc:dj):Nat->Nat->S3->St->(S3->St->Prop)->Prop
 |0,_,_,_,_=>False
 |f+1,j,acc,s,k=>ob (mw it j s) λo=>yb o (k acc s) λv=>eU tgt (.a v) loc λl8=>cQ l8 s λt s=>tb (dB s t) (compLoop tgt it cQ gF loc f (j+1) acc s k) (gF l8 s λx s=>pb x λx=>compLoop tgt it cQ gF loc f (j+1) (acc++[x]) s k)
def rI(tgt:Nat ⊕ S5)(sV:MV)(cQ gF:EV)(loc:dj)(s:St)(k:KV):Prop:=ob (Ez sV s) λit=>gb (decide (iC it s<=100000)) (compLoop tgt it cQ gF loc (iC it s+1) 0 [] s λxs s=>jT (.a xs) s k)
def ee(t:EV)(b:XV):Nat->dj->St->KX->Prop
 |0,_,_,_=>False
 |f+1,loc,s,k=>t loc s λv s=>tb (dB s v) (k .a loc s) (b loc s λfl loc s=>lb fl (ee t b f loc s k) (k fl loc s))
def forLoop(tgt:Nat ⊕ S5)(it:It)(b:XV):Nat->Nat->dj->St->KX->Prop
 |0,_,_,_,_=>False
 |f+1,j,loc,s,k=>ob (mw it j s) λo=>yb o (k .a loc s) λv=>eU tgt (.a v) loc λloc=>b loc s λfl loc s=>lb fl (forLoop tgt it b f (j+1) loc s k) (k fl loc s)
def M7(c n:Nat):Bool:=match gX c with
 |some k=>(k.b.lookup n).isNone&&Nat.blt n 116
 |none=>false
def fZ(c:Nat):S5:=match gX c with
 |some k=>k.c
 |none=>[]
def zI(o:PV)(n:Nat)(s:St)(k:PV->Prop):Prop:=yb o.d' (yb o.c' (ob o.V λi=>ob (s.b[i]?.bind ah.O) λx=>gb (M7 x.1 n) (ob (iE n x.2) k))
 λx=>gb (M7 0 n) (if n=5 then ob s.c[x.1]? λi=>k (.d i)else ob (iE n ((fZ 0).zip x.2)) k)) λx=>gb (M7 x.1 n) (ob (iE n ((fZ x.1).zip x.2)) k)
def zk(o:MV)(n:Nat)(v:MV)(s:St)(k:St->Prop):Prop:=pb v λv=>yb (o.I.bind PV.c') (ob ((l9 s o).bind ah.O) λx=>gb (M7 x.1 n&&decide (x.2.length<900)) (k (pA s o (.g x.1 (z4 n v x.2)))))
 λx=>ib v λj=>gb (Nat.beq n 5&&Nat.blt x.1 s.c.length) (k (s.O (·.set x.1 j)))
noncomputable def Dz:S5->S5->Bool
 |[],[]=>true
 |a::x,b::y=>Nat.beq a b&&Dz x y
 |_,_=>false
def IK(c:Nat)(fl:S5)(as:WL)(s:St)(k:KP):Prop:=
 if c=0 then gb (Dz (as.map (·.1)) (fl++[5])) (ob ((as.getLast?.map (·.2)).bind PV.J) λj=>k (.l s.c.length (as.dropLast.map (·.2))) (s.O (· ++[j])))
 else gb (Dz (as.map (·.1)) fl) (k (.m c (as.map (·.2))) s)
section
variable (cl:CL)
def zL(c:Nat)(args:WC)(s:St)(k:KP):Prop:=ob (gX c) λx=>match x.a with
 |some f=>match x.d with
  |true=>jT (.g c []) s λv s=>cl f (v::args) s λr s=>gb (I0 (.a r)) (Es v s λo s=>ob o.O λy=>gb (Nat.beq y.1 c) (IK c x.c y.2 s k))
  |false=>cl f (.a (.e s.b.length)::args) (s.J (· ++[.g c []])) λr s'=>gb (I0 (.a r)) (k (.e s.b.length) s')
 |none=>gb args.isEmpty (k (.m c []) s)
inductive MK where
 |d (f:Nat)
 |a
 |b
 |c
def nT(c name:Nat)(as:WL):Option MK:=match iE name as with
 |none=>(gX c).bind λk=>(k.b.lookup name).map .d
 |some J=>none
def JZ(o:MV)(name:Nat)(s:St):Option MK:=yo (o.I.bind PV.d') (yo (o.I.bind PV.f') (yo (o.I.bind PV.e') (yo o.V
 ((l9 s o).bind λc=>yo c.O (yo c.J (yo c.I (yo c.V none λJ=>some .b) λJ=>some .a) λJ=>some .a) λx=>nT x.1 name x.2)
 λJ=>some .a) λJ=>some .b) λJ=>some .c) λx=>nT x.1 name ((fZ x.1).zip x.2)
def rG(o v:MV)(s:St)(k:St->Prop):Prop:=yb o.V (ob (l9 s o) λc=>yb c.J
 (ob c.I λeK=>Js v s λc s=>ob c.J λvs=>gb (decide (eK.length<100000)) (k (pA s o (.f (eK++[vs])))))
 λvs=>pb v λv=>gb (decide (vs.length<100000)) (k (pA s o (.a (vs++[v])))))
 λp=>ob (s.b[p.1]?.bind ah.I) λeK=>ob eK[p.2]? λvs=>pb v λv=>gb (decide (vs.length<100000)) (k (s.J (·.set p.1 (.f (eK.set p.2 (vs++[v]))))))
def DG(o:MV)(name:Nat)(args:WC)(s:St)(k:KV):Prop:=match name,args with
 |10,[v]=>rG o v s λs=>k (.a .h) s
 |37,[]=>ob ((l9 s o).bind ah.J) λvs=>ob vs.getLast? λv=>k (.a v) (pA s o (.a vs.dropLast))
 |_,_=>False
def B4(name:Nat)(args:WC)(k:PV->PV->Prop):Prop:=match name,args with
 |21,[a,b]=>pb a λa=>pb b λb=>k a b
 |_,_=>False
def BN(o:MV)(name:Nat)(m:MK)(args:WC)(s:St)(k:KV):Prop:=match m with
 |.d f=>cl f (o::args) s λv s=>k (.a v) s
 |.a=>DG o name args s k
 |.b=>B4 name args λa b=>ob (B7 s o) λd=>gb (iQ d.1 a) (k (.a ((bA a d.2).getD b)) s)
 |.c=>B4 name args λa b=>sU a b λv=>k (.a v) s
def YB:WC->(S3->Prop)->Prop
 |[],k=>k []
 |v::r,k=>pb v λv=>YB r λvs=>k (v::vs)
abbrev GJ:=dj->St->(WC->St->Prop)->Prop
abbrev XG:=dj->St->(S8->St->Prop)->Prop
def bN(v:PV):EV:=λJ s k=>k (.a v) s
def bx(i:Nat):EV:=λloc s k=>lk loc[i]? λv=>k v s
def jP(j:Nat):EV:=λJ s k=>ob (IJ j) λv=>k (.a v) s
def xr(op:vn)(l r:EV):EV:=λloc s k=>l loc s λa s=>r loc s λb s=>tF op a b s k
def Ut(e:EV):EV:=λloc s k=>e loc s λv s=>ob (dB s v) λb=>k (.a (.g (!b))) s
def Yk(e:EV):EV:=λloc s k=>e loc s λv s=>pb v λv=>ib v λi=>k (.a (.d (-i))) s
def B6(a b:EV):EV:=λloc s k=>a loc s λv s=>tb (dB s v) (k v s) (b loc s k)
def eOr(a b:EV):EV:=λloc s k=>a loc s λv s=>tb (dB s v) (b loc s k) (k v s)
def Uu(t a b:EV):EV:=λloc s k=>t loc s λv s=>tb (dB s v) (b loc s k) (a loc s k)
def S0(kvs:XG):EV:=λloc s k=>kvs loc s λps s=>gb (ps.all (λe=>isInt e.1)&&decide (ps.length<=1000)) (jT (.e false (ps.foldl (λd e=>cY e.1 e.2 d) [])) s k)
def tD(es:GJ):EV:=λloc s k=>es loc s λvs s=>YB vs λps=>gb (decide (ps.length<=1000)) (jT (.a ps) s k)
def NV(es:GJ):EV:=λloc s k=>es loc s λvs s=>YB vs λps=>gb (decide (ps.length<=1000)) (k (.a (.f ps)) s)
def Tc(gF:EV)(tgt:Nat ⊕ S5)(fX:EV):EV:=λloc s k=>fX loc s λsV s=>rI tgt sV (bN (.g true)) gF (gQ tgt loc) s k
def vK(gF:EV)(tgt:Nat ⊕ S5)(fX cQ:EV):EV:=λloc s k=>fX loc s λsV s=>rI tgt sV cQ gF (gQ tgt loc) s k
def jG(op:PM)(l r:EV):EV:=λloc s k=>l loc s λa s=>r loc s λb s=>AL op a b s λb=>k (.a (.g b)) s
def IM(e:EV)(wQ:Bool):EV:=λloc s k=>e loc s λv s=>pb v λp=>k (.a (.g (I0 (.a p) != wQ))) s
def tE(f:Nat)(args:GJ):EV:=λloc s k=>args loc s λvs s=>cl f vs s λv s=>k (.a v) s
def NW(c:Nat)(args:GJ):EV:=λloc s k=>args loc s λvs s=>zL cl c vs s λv s=>k (.a v) s
def XA(b:BI)(e:EV):EV:=λloc s k=>e loc s λv s=>bi b v s k
noncomputable def NI(name:Nat)(m:MK):Bool:=MK.rec (motive:=λJ=>Bool) (λJ=>true) (Nat.beq name 10||Nat.beq name 37) (Nat.beq name 21) (Nat.beq name 21) m
def oJ(o:EV)(name:Nat)(args:GJ):EV:=λloc s k=>o loc s λov s=>ob (JZ ov name s) λm=>gb (NI name m) (args loc s λvs s=>BN cl ov name m vs s k)
def fT(o:EV)(name:Nat):EV:=λloc s k=>o loc s λov s=>pb ov λp=>zI p name s λv=>k (.a v) s
def zZ(o i:EV):EV:=λloc s k=>o loc s λov s=>i loc s λiv s=>nD ov iv s λv=>k v s
def Kw(o:EV)(lo hi:aal):EV:=λloc s k=>o loc s λov s=>JM ov lo hi s k
def sI(dead:Bool)(e:EV):EV:=λloc s k=>e loc s λv s=>zY dead v s k
def SY(e:EV):EV:=λloc s k=>e loc s λv s=>Jp v s k
def Wi:EV:=λJ s k=>k (.a (.e s.b.length)) (s.J (· ++[.f [[]]]))
def Wh:EV:=λJ s k=>k (.a (.e s.b.length)) (s.J (· ++[.e true []]))
def Wg:EV:=λJ J J=>False
def d9:GJ:=λJ s k=>k [] s
def bO(e:EV)(es:GJ):GJ:=λloc s k=>e loc s λv s=>es loc s λvs s=>k (v::vs) s
def SV:XG:=λJ s k=>k [] s
def Wf(a b:EV)(r:XG):XG:=λloc s k=>a loc s λkv s=>pb kv λkv=>b loc s λvv s=>pb vv λvv=>r loc s λps s=>k ((kv,vv)::ps) s
abbrev IV:=dj->St->(It->St->Prop)->Prop
def DL(e:EV):IV:=λloc s k=>e loc s λv s=>ob (Ez v s) λi=>k i s
def Up(e:EV):IV:=λloc s k=>e loc s λv s=>match v with
 |.a (.j vs)=>k (.a vs.reverse) s
 |_=>False
def VQ(e:EV):IV:=λloc s k=>e loc s λv s=>pb v λv=>ib v λj=>gb (decide (0<=j/\j<1000000)) (k (.c j.toNat) s)
noncomputable def yJ(k:Nat):S7->Bool
 |some (.b 0 j)=> !Nat.beq j k
 |_=>true
def zw(i:Nat)(v:MV)(loc:dj)(s:St)(k:St->Prop):Prop:=lk loc[i]? λo=>match o with
 |.b 0 j=>gb ((loc.set i none).all (yJ j)) (Es v s λc s=>gb (Nat.blt j (s.a.headD []).length) (k (pA s o c)))
 |_=>False
def gJ(i:Nat)(e:EV):XV:=λloc s k=>e loc s λv s=>k .a (loc.set i (some v)) s
def uS(i:Nat)(e:EV):XV:=λloc s k=>e loc s λv s=>zw i v loc s λs=>k .a loc s
def KJ(is:S5)(e:EV):XV:=λloc s k=>e loc s λv s=>eU (.inr is) v loc λloc=>k .a loc s
def o7(o:EV)(name:Nat)(e:EV):XV:=λloc s k=>e loc s λv s=>o loc s λov s=>zk ov name v s λs=>k .a loc s
def mZ(o i e:EV):XV:=λloc s k=>e loc s λv s=>o loc s λov s=>i loc s λiv s=>rD ov iv v s λs=>k .a loc s
def TU(i:Nat)(op:vn)(e:EV):XV:=λloc s k=>lk loc[i]? λx=>pb x λx=>ib x λa=>e loc s λy s=>pb y λy=>ib y λb=>ob (nA op a b) λz=>k .a (loc.set i (some (.a (.d z)))) s
def A1(o:EV)(name:Nat)(op:vn)(e:EV):XV:=λloc s k=>o loc s λov s=>pb ov λp=>zI p name s λx=>ib x λa=>e loc s λy s=>pb y λy=>ib y λb=>ob (nA op a b) λz=>zk ov name (.a (.d z)) s λs=>k .a loc s
def um(t:EV)(a b:XV):XV:=λloc s k=>t loc s λv s=>tb (dB s v) (b loc s k) (a loc s k)
def yD(t:EV)(body:XV):XV:=λloc s k=>ee t body 50000 loc s k
def BU(tgt:Nat ⊕ S5)(it:IV)(body:XV):XV:=λloc s k=>it loc s λi s=>forLoop tgt i body (iC i s+1) 0 loc s k
def Iw(e:EV):XV:=λloc s k=>e loc s λv s=>k (.b v) loc s
def RW:XV:=λloc s k=>k (.b (.a .h)) loc s
def xD(e:EV):XV:=λloc s k=>e loc s λJ s=>k .a loc s
def un(body eF:XV):XV:=λloc s k=>body loc s λf loc s=>eF loc s λg loc s=>fb g (k f loc s) False
def RX:XV:=λloc s k=>k .c loc s
def UE:XV:=λJ J J=>False
def eG:XV:=λloc s k=>k .a loc s
def bU(a b:XV):XV:=λloc s k=>a loc s λfl loc s=>fb fl (b loc s k) (k fl loc s)
mutual
def aE:ME->EV
 |.n v=>bN v
 |.y i=>bx i
 |.d j=>jP j
 |.x op l r=>xr op (aE l) (aE r)
 |.F e=>Ut (aE e)
 |.G e=>Yk (aE e)
 |.z a b=>B6 (aE a) (aE b)
 |.A a b=>eOr (aE a) (aE b)
 |.B t a b=>Uu (aE t) (aE a) (aE b)
 |.w kvs=>S0 (aP kvs)
 |.u es=>tD (aN es)
 |.p es=>NV (aN es)
 |.K gF tgt fX=>Tc (aE gF) tgt (aE fX)
 |.J gF tgt fX cQ=>vK (aE gF) tgt (aE fX) (aE cQ)
 |.h op l r=>jG op (aE l) (aE r)
 |.H e wQ=>IM (aE e) wQ
 |.j f args=>tE cl f (aN args)
 |.C c args=>NW cl c (aN args)
 |.D b e=>XA b (aE e)
 |.s o name args=>oJ cl (aE o) name (aN args)
 |.g o name=>fT (aE o) name
 |.q o i=>zZ (aE o) (aE i)
 |.I o lo hi=>Kw (aE o) lo hi
 |.m dead e=>sI dead (aE e)
 |.E e=>SY (aE e)
 |.N=>Wi
 |.M=>Wh
 |.L=>Wg
def aN:AZ->GJ
 |.b=>d9
 |.a e es=>bO (aE e) (aN es)
def aP:Nq->XG
 |.a=>SV
 |.b a b r=>Wf (aE a) (aE b) (aP r)
end
def bh:PK->IV
 |.a e=>DL (aE cl e)
 |.c e=>Up (aE cl e)
 |.b e=>VQ (aE cl e)
mutual
def bf:MS->XV
 |.c i e=>gJ i (aE cl e)
 |.q i e=>uS i (aE cl e)
 |.u is e=>KJ is (aE cl e)
 |.g o name e=>o7 (aE cl o) name (aE cl e)
 |.l o i e=>mZ (aE cl o) (aE cl i) (aE cl e)
 |.r i op e=>TU i op (aE cl e)
 |.v o name op e=>A1 (aE cl o) name op (aE cl e)
 |.d t a b=>um (aE cl t) (ay a) (ay b)
 |.m t body=>yD (aE cl t) (ay body)
 |.k tgt it body=>BU tgt (bh cl it) (ay body)
 |.f e=>Iw (aE cl e)
 |.p=>RW
 |.h e=>xD (aE cl e)
 |.n body eF=>un (ay body) (ay eF)
 |.w=>RX
 |.j=>UE
def ay:nP->XV
 |.c=>eG
 |.a st ss=>bU (bf st) (ay ss)
end
end
end
end

variable{k:KX}{it:It}{cl:CL}{cQ:EV}{gF:EV}{K:It->St->Prop}
section
noncomputable def MV.J:MV->MV
 |.b d i=>.b (d+1) i
 |v=>v
structure Cb where
 a:Nat
 b:S3
 c:Nat
 d:CL->XV
def r7(mf:Cb)(args:WC):Option (WC):=if args.length<=mf.a/\mf.a<=args.length+mf.b.length then some (args.map MV.J++(mf.b.drop (args.length+mf.b.length-mf.a)).map .a)else none
def eF(k:KP):KX:=λfl J s=>match fl with
 |.b v=>pb v λv=>k v (s.I List.tail)
 |.a=>k .h (s.I List.tail)
 |.c=>False
section
abbrev Sh(cl:CL)(f:bH):=(x:XV)×' ay cl f.d=x
variable (cl:CL)
noncomputable def s0:Sh cl f0:=⟨_,by dsimp only[f0,ay,bf,aE,aN,aP,bh]⟩
noncomputable def s1:Sh cl f1:=⟨_,by dsimp only[f1,ay,bf,aE,aN,aP,bh]⟩
noncomputable def s2:Sh cl f2:=⟨_,by dsimp only[f2,ay,bf,aE,aN,aP,bh]⟩
noncomputable def s3:Sh cl f3:=⟨_,by dsimp only[f3,ay,bf,aE,aN,aP,bh]⟩
noncomputable def s4:Sh cl f4:=⟨_,by dsimp only[f4,ay,bf,aE,aN,aP,bh]⟩
noncomputable def s5:Sh cl f5:=⟨_,by dsimp only[f5,ay,bf,aE,aN,aP,bh]⟩
noncomputable def s6:Sh cl f6:=⟨_,by dsimp only[f6,ay,bf,aE,aN,aP,bh]⟩
noncomputable def s7:Sh cl f7:=⟨_,by dsimp only[f7,ay,bf,aE,aN,aP,bh]⟩
noncomputable def s8:Sh cl f8:=⟨_,by dsimp only[f8,ay,bf,aE,aN,aP,bh]⟩
noncomputable def s9:Sh cl f9:=⟨_,by dsimp only[f9,ay,bf,aE,aN,aP,bh]⟩
noncomputable def T0:Sh cl PJ:=⟨_,by dsimp only[PJ,ay,bf,aE,aN,aP,bh]⟩
noncomputable def TW:Sh cl PI:=⟨_,by dsimp only[PI,ay,bf,aE,aN,aP,bh]⟩
noncomputable def TT:Sh cl PG:=⟨_,by dsimp only[PG,ay,bf,aE,aN,aP,bh]⟩
noncomputable def TO:Sh cl PF:=⟨_,by dsimp only[PF,ay,bf,aE,aN,aP,bh]⟩
noncomputable def TK:Sh cl PE:=⟨_,by dsimp only[PE,ay,bf,aE,aN,aP,bh]⟩
noncomputable def TI:Sh cl PD:=⟨_,by dsimp only[PD,ay,bf,aE,aN,aP,bh]⟩
noncomputable def TD:Sh cl PC:=⟨_,by dsimp only[PC,ay,bf,aE,aN,aP,bh]⟩
noncomputable def TC:Sh cl PB:=⟨_,by dsimp only[PB,ay,bf,aE,aN,aP,bh]⟩
noncomputable def Ty:Sh cl PA:=⟨_,by dsimp only[PA,ay,bf,aE,aN,aP,bh]⟩
noncomputable def Tx:Sh cl Pz:=⟨_,by dsimp only[Pz,ay,bf,aE,aN,aP,bh]⟩
noncomputable def Ts:Sh cl Py:=⟨_,by dsimp only[Py,ay,bf,aE,aN,aP,bh]⟩
noncomputable def Tm:Sh cl Px:=⟨_,by dsimp only[Px,ay,bf,aE,aN,aP,bh]⟩
noncomputable def Tl:Sh cl Pw:=⟨_,by dsimp only[Pw,ay,bf,aE,aN,aP,bh]⟩
noncomputable def Tk:Sh cl Pu:=⟨_,by dsimp only[Pu,ay,bf,aE,aN,aP,bh]⟩
noncomputable def Tb:Sh cl I9:=⟨_,by dsimp only[I9,ay,bf,aE,aN,aP,bh]⟩
noncomputable def Ta:Sh cl Pr:=⟨_,by dsimp only[Pr,ay,bf,aE,aN,aP,bh]⟩
noncomputable def SZ:Sh cl Pq:=⟨_,by dsimp only[Pq,ay,bf,aE,aN,aP,bh]⟩
noncomputable def SU:Sh cl Pp:=⟨_,by dsimp only[Pp,ay,bf,aE,aN,aP,bh]⟩
noncomputable def SL:Sh cl Po:=⟨_,by dsimp only[Po,ay,bf,aE,aN,aP,bh]⟩
noncomputable def SF:Sh cl Pn:=⟨_,by dsimp only[Pn,ay,bf,aE,aN,aP,bh]⟩
noncomputable def SC:Sh cl Pk:=⟨_,by dsimp only[Pk,ay,bf,aE,aN,aP,bh]⟩
noncomputable def SB:Sh cl Pj:=⟨_,by dsimp only[Pj,ay,bf,aE,aN,aP,bh]⟩
noncomputable def Sr:Sh cl Ph:=⟨_,by dsimp only[Ph,ay,bf,aE,aN,aP,bh]⟩
noncomputable def Sc:Sh cl Pg:=⟨_,by dsimp only[Pg,ay,bf,aE,aN,aP,bh]⟩
noncomputable def RF:Sh cl Pf:=⟨_,by dsimp only[Pf,ay,bf,aE,aN,aP,bh]⟩
noncomputable def Rs:Sh cl Pe:=⟨_,by dsimp only[Pe,ay,bf,aE,aN,aP,bh]⟩
noncomputable def Re:Sh cl Pd:=⟨_,by dsimp only[Pd,ay,bf,aE,aN,aP,bh]⟩
noncomputable def Q1:Sh cl Pc:=⟨_,by dsimp only[Pc,ay,bf,aE,aN,aP,bh]⟩
noncomputable def QR:Sh cl Pb:=⟨_,by dsimp only[Pb,ay,bf,aE,aN,aP,bh]⟩
noncomputable def QQ:Sh cl Pa:=⟨_,by dsimp only[Pa,ay,bf,aE,aN,aP,bh]⟩
noncomputable def QP:Sh cl O9:=⟨_,by dsimp only[O9,ay,bf,aE,aN,aP,bh]⟩
noncomputable def Qr:Sh cl O8:=⟨_,by dsimp only[O8,ay,bf,aE,aN,aP,bh]⟩
noncomputable def Qb:Sh cl O7:=⟨_,by dsimp only[O7,ay,bf,aE,aN,aP,bh]⟩
noncomputable def P9:Sh cl O6:=⟨_,by dsimp only[O6,ay,bf,aE,aN,aP,bh]⟩
noncomputable def P8:Sh cl O5:=⟨_,by dsimp only[O5,ay,bf,aE,aN,aP,bh]⟩
noncomputable def P7:Sh cl Nh:=⟨_,by dsimp only[Nh,ay,bf,aE,aN,aP,bh]⟩
noncomputable def P6:Sh cl I8:=⟨_,by dsimp only[I8,ay,bf,aE,aN,aP,bh]⟩
noncomputable def P5:Sh cl O4:=⟨_,by dsimp only[O4,ay,bf,aE,aN,aP,bh]⟩
noncomputable def P4:Sh cl O3:=⟨_,by dsimp only[O3,ay,bf,aE,aN,aP,bh]⟩
noncomputable def P3:Sh cl O2:=⟨_,by dsimp only[O2,ay,bf,aE,aN,aP,bh]⟩
noncomputable def P2:Sh cl O1:=⟨_,by dsimp only[O1,ay,bf,aE,aN,aP,bh]⟩
noncomputable def P1:Sh cl O0:=⟨_,by dsimp only[O0,ay,bf,aE,aN,aP,bh]⟩
noncomputable def PQ:Sh cl OZ:=⟨_,by dsimp only[OZ,ay,bf,aE,aN,aP,bh]⟩
noncomputable def PP:Sh cl OY:=⟨_,by dsimp only[OY,ay,bf,aE,aN,aP,bh]⟩
noncomputable def PH:Sh cl OX:=⟨_,by dsimp only[OX,ay,bf,aE,aN,aP,bh]⟩
noncomputable def Pv:Sh cl OW:=⟨_,by dsimp only[OW,ay,bf,aE,aN,aP,bh]⟩
noncomputable def Ps:Sh cl OV:=⟨_,by dsimp only[OV,ay,bf,aE,aN,aP,bh]⟩
noncomputable def Pm:Sh cl OU:=⟨_,by dsimp only[OU,ay,bf,aE,aN,aP,bh]⟩
noncomputable def Pi:Sh cl OT:=⟨_,by dsimp only[OT,ay,bf,aE,aN,aP,bh]⟩
noncomputable def OK:Sh cl OS:=⟨_,by dsimp only[OS,ay,bf,aE,aN,aP,bh]⟩
noncomputable def Oy:Sh cl OR:=⟨_,by dsimp only[OR,ay,bf,aE,aN,aP,bh]⟩
noncomputable def Os:Sh cl OQ:=⟨_,by dsimp only[OQ,ay,bf,aE,aN,aP,bh]⟩
noncomputable def Op:Sh cl OP:=⟨_,by dsimp only[OP,ay,bf,aE,aN,aP,bh]⟩
noncomputable def On:Sh cl OO:=⟨_,by dsimp only[OO,ay,bf,aE,aN,aP,bh]⟩
noncomputable def Ok:Sh cl ON:=⟨_,by dsimp only[ON,ay,bf,aE,aN,aP,bh]⟩
noncomputable def N0:Sh cl OM:=⟨_,by dsimp only[OM,ay,bf,aE,aN,aP,bh]⟩
noncomputable def NM:Sh cl OL:=⟨_,by dsimp only[OL,ay,bf,aE,aN,aP,bh]⟩
noncomputable def NE:Sh cl OJ:=⟨_,by dsimp only[OJ,ay,bf,aE,aN,aP,bh]⟩
noncomputable def NA:Sh cl Ng:=⟨_,by dsimp only[Ng,ay,bf,aE,aN,aP,bh]⟩
noncomputable def Nw:Sh cl OI:=⟨_,by dsimp only[OI,ay,bf,aE,aN,aP,bh]⟩
noncomputable def No:Sh cl OH:=⟨_,by dsimp only[OH,ay,bf,aE,aN,aP,bh]⟩
noncomputable def Mo:Sh cl OG:=⟨_,by dsimp only[OG,ay,bf,aE,aN,aP,bh]⟩
noncomputable def Md:Sh cl Fx:=⟨_,by dsimp only[Fx,ay,bf,aE,aN,aP,bh]⟩
noncomputable def L9:Sh cl OF:=⟨_,by dsimp only[OF,ay,bf,aE,aN,aP,bh]⟩
noncomputable def KM:Sh cl OE:=⟨_,by dsimp only[OE,ay,bf,aE,aN,aP,bh]⟩
noncomputable def KE:Sh cl OD:=⟨_,by dsimp only[OD,ay,bf,aE,aN,aP,bh]⟩
noncomputable def KB:Sh cl OC:=⟨_,by dsimp only[OC,ay,bf,aE,aN,aP,bh]⟩
noncomputable def Kx:Sh cl OB:=⟨_,by dsimp only[OB,ay,bf,aE,aN,aP,bh]⟩
noncomputable def Yz:Sh cl t8:=⟨_,by dsimp only[t8,ay,bf,aE,aN,aP,bh]⟩
noncomputable def Kk:Sh cl OA:=⟨_,by dsimp only[OA,ay,bf,aE,aN,aP,bh]⟩
noncomputable def Kj:Sh cl Oz:=⟨_,by dsimp only[Oz,ay,bf,aE,aN,aP,bh]⟩
noncomputable def Yy:Sh cl Fw:=⟨_,by dsimp only[Fw,ay,bf,aE,aN,aP,bh]⟩
noncomputable def Yx:Sh cl GF:=⟨_,by dsimp only[GF,ay,bf,aE,aN,aP,bh]⟩
noncomputable def Ki:Sh cl Ox:=⟨_,by dsimp only[Ox,ay,bf,aE,aN,aP,bh]⟩
noncomputable def Kb:Sh cl Ow:=⟨_,by dsimp only[Ow,ay,bf,aE,aN,aP,bh]⟩
noncomputable def Jn:Sh cl Ov:=⟨_,by dsimp only[Ov,ay,bf,aE,aN,aP,bh]⟩
noncomputable def IR:Sh cl I7:=⟨_,by dsimp only[I7,ay,bf,aE,aN,aP,bh]⟩
noncomputable def IO:Sh cl Ou:=⟨_,by dsimp only[Ou,ay,bf,aE,aN,aP,bh]⟩
noncomputable def Yw:Sh cl Af:=⟨_,by dsimp only[Af,ay,bf,aE,aN,aP,bh]⟩
noncomputable def IN:Sh cl Ot:=⟨_,by dsimp only[Ot,ay,bf,aE,aN,aP,bh]⟩
noncomputable def Xa:Sh cl t7:=⟨_,by dsimp only[t7,ay,bf,aE,aN,aP,bh]⟩
end
def xH:List Cb:=[⟨f0.a,f0.b,f0.c,λcl=>(s0 cl).1⟩,⟨f1.a,f1.b,f1.c,λcl=>(s1 cl).1⟩,⟨f2.a,f2.b,f2.c,λcl=>(s2 cl).1⟩,⟨f3.a,f3.b,f3.c,λcl=>(s3 cl).1⟩,⟨f4.a,f4.b,f4.c,λcl=>(s4 cl).1⟩,⟨f5.a,f5.b,f5.c,λcl=>(s5 cl).1⟩,⟨f6.a,f6.b,f6.c,λcl=>(s6 cl).1⟩,⟨f7.a,f7.b,f7.c,λcl=>(s7 cl).1⟩,⟨f8.a,f8.b,f8.c,λcl=>(s8 cl).1⟩,⟨f9.a,f9.b,f9.c,λcl=>(s9 cl).1⟩,⟨PJ.a,PJ.b,PJ.c,λcl=>(T0 cl).1⟩,⟨PI.a,PI.b,PI.c,λcl=>(TW cl).1⟩,⟨PG.a,PG.b,PG.c,λcl=>(TT cl).1⟩,⟨PF.a,PF.b,PF.c,λcl=>(TO cl).1⟩,⟨PE.a,PE.b,PE.c,λcl=>(TK cl).1⟩,⟨PD.a,PD.b,PD.c,λcl=>(TI cl).1⟩,⟨PC.a,PC.b,PC.c,λcl=>(TD cl).1⟩,⟨PB.a,PB.b,PB.c,λcl=>(TC cl).1⟩,⟨PA.a,PA.b,PA.c,λcl=>(Ty cl).1⟩,⟨Pz.a,Pz.b,Pz.c,λcl=>(Tx cl).1⟩,⟨Py.a,Py.b,Py.c,λcl=>(Ts cl).1⟩,⟨Px.a,Px.b,Px.c,λcl=>(Tm cl).1⟩,⟨Pw.a,Pw.b,Pw.c,λcl=>(Tl cl).1⟩,⟨Pu.a,Pu.b,Pu.c,λcl=>(Tk cl).1⟩,⟨I9.a,I9.b,I9.c,λcl=>(Tb cl).1⟩,⟨Pr.a,Pr.b,Pr.c,λcl=>(Ta cl).1⟩,⟨Pq.a,Pq.b,Pq.c,λcl=>(SZ cl).1⟩,⟨Pp.a,Pp.b,Pp.c,λcl=>(SU cl).1⟩,⟨Po.a,Po.b,Po.c,λcl=>(SL cl).1⟩,⟨Pn.a,Pn.b,Pn.c,λcl=>(SF cl).1⟩,⟨Pk.a,Pk.b,Pk.c,λcl=>(SC cl).1⟩,⟨Pj.a,Pj.b,Pj.c,λcl=>(SB cl).1⟩,⟨Ph.a,Ph.b,Ph.c,λcl=>(Sr cl).1⟩,⟨Pg.a,Pg.b,Pg.c,λcl=>(Sc cl).1⟩,⟨Pf.a,Pf.b,Pf.c,λcl=>(RF cl).1⟩,⟨Pe.a,Pe.b,Pe.c,λcl=>(Rs cl).1⟩,⟨Pd.a,Pd.b,Pd.c,λcl=>(Re cl).1⟩,⟨Pc.a,Pc.b,Pc.c,λcl=>(Q1 cl).1⟩,⟨Pb.a,Pb.b,Pb.c,λcl=>(QR cl).1⟩,⟨Pa.a,Pa.b,Pa.c,λcl=>(QQ cl).1⟩,⟨O9.a,O9.b,O9.c,λcl=>(QP cl).1⟩,⟨O8.a,O8.b,O8.c,λcl=>(Qr cl).1⟩,⟨O7.a,O7.b,O7.c,λcl=>(Qb cl).1⟩,⟨O6.a,O6.b,O6.c,λcl=>(P9 cl).1⟩,⟨O5.a,O5.b,O5.c,λcl=>(P8 cl).1⟩,⟨Nh.a,Nh.b,Nh.c,λcl=>(P7 cl).1⟩,⟨I8.a,I8.b,I8.c,λcl=>(P6 cl).1⟩,⟨O4.a,O4.b,O4.c,λcl=>(P5 cl).1⟩,⟨O3.a,O3.b,O3.c,λcl=>(P4 cl).1⟩,⟨O2.a,O2.b,O2.c,λcl=>(P3 cl).1⟩,⟨O1.a,O1.b,O1.c,λcl=>(P2 cl).1⟩,⟨O0.a,O0.b,O0.c,λcl=>(P1 cl).1⟩,⟨OZ.a,OZ.b,OZ.c,λcl=>(PQ cl).1⟩,⟨OY.a,OY.b,OY.c,λcl=>(PP cl).1⟩,⟨OX.a,OX.b,OX.c,λcl=>(PH cl).1⟩,⟨OW.a,OW.b,OW.c,λcl=>(Pv cl).1⟩,⟨OV.a,OV.b,OV.c,λcl=>(Ps cl).1⟩,⟨OU.a,OU.b,OU.c,λcl=>(Pm cl).1⟩,⟨OT.a,OT.b,OT.c,λcl=>(Pi cl).1⟩,⟨OS.a,OS.b,OS.c,λcl=>(OK cl).1⟩,⟨OR.a,OR.b,OR.c,λcl=>(Oy cl).1⟩,⟨OQ.a,OQ.b,OQ.c,λcl=>(Os cl).1⟩,⟨OP.a,OP.b,OP.c,λcl=>(Op cl).1⟩,⟨OO.a,OO.b,OO.c,λcl=>(On cl).1⟩,⟨ON.a,ON.b,ON.c,λcl=>(Ok cl).1⟩,⟨OM.a,OM.b,OM.c,λcl=>(N0 cl).1⟩,⟨OL.a,OL.b,OL.c,λcl=>(NM cl).1⟩,⟨OJ.a,OJ.b,OJ.c,λcl=>(NE cl).1⟩,⟨Ng.a,Ng.b,Ng.c,λcl=>(NA cl).1⟩,⟨OI.a,OI.b,OI.c,λcl=>(Nw cl).1⟩,⟨OH.a,OH.b,OH.c,λcl=>(No cl).1⟩,⟨OG.a,OG.b,OG.c,λcl=>(Mo cl).1⟩,⟨Fx.a,Fx.b,Fx.c,λcl=>(Md cl).1⟩,⟨OF.a,OF.b,OF.c,λcl=>(L9 cl).1⟩,⟨OE.a,OE.b,OE.c,λcl=>(KM cl).1⟩,⟨OD.a,OD.b,OD.c,λcl=>(KE cl).1⟩,⟨OC.a,OC.b,OC.c,λcl=>(KB cl).1⟩,⟨OB.a,OB.b,OB.c,λcl=>(Kx cl).1⟩,⟨t8.a,t8.b,t8.c,λcl=>(Yz cl).1⟩,⟨OA.a,OA.b,OA.c,λcl=>(Kk cl).1⟩,⟨Oz.a,Oz.b,Oz.c,λcl=>(Kj cl).1⟩,⟨Fw.a,Fw.b,Fw.c,λcl=>(Yy cl).1⟩,⟨GF.a,GF.b,GF.c,λcl=>(Yx cl).1⟩,⟨Ox.a,Ox.b,Ox.c,λcl=>(Ki cl).1⟩,⟨Ow.a,Ow.b,Ow.c,λcl=>(Kb cl).1⟩,⟨Ov.a,Ov.b,Ov.c,λcl=>(Jn cl).1⟩,⟨I7.a,I7.b,I7.c,λcl=>(IR cl).1⟩,⟨Ou.a,Ou.b,Ou.c,λcl=>(IO cl).1⟩,⟨Af.a,Af.b,Af.c,λcl=>(Yw cl).1⟩,⟨Ot.a,Ot.b,Ot.c,λcl=>(IN cl).1⟩,⟨t7.a,t7.b,t7.c,λcl=>(Xa cl).1⟩]
def ny(cl:CL):CL:=λf args s k=>ob xH[f]? λmf=>ob (r7 mf args) λfull=>mf.d cl (full.map some++List.replicate (mf.c-mf.a) none) (s.I ([]:: ·)) (eF k)
def gI(n:Nat):CL:=Nat.rec (λJ J J J=>False) (λJ cl=>ny cl) n
theorem BL:∃F:Nat->CL,F=gI:=⟨_,rfl⟩
def av:Nat->CL:=Classical.choose BL
theorem cO:av=gI:=Classical.choose_spec BL
theorem Rk{n:Nat}:av (n+1)=ny (av n):=by rw[cO];rfl
theorem in_w{n f:Nat}{args:WC}{s:St}{k:KP}(h:ny (av n) f args s k):av (n+1) f args s k:=by rw[Rk];exact h
end

theorem l6{i:Int}(h:v.J=some i):v=.d i:=by induction v using PV.casesOn<;>first|exact congrArg PV.d (aq h)|exact nomatch (show none=some i from h)
theorem ql{i:Str}(h:v.O=some i):v=.k i:=by induction v using PV.casesOn<;>first|exact congrArg PV.k (aq h)|exact nomatch (show none=some i from h)
theorem kD{i:S3}(h:v.I=some i):v=.f i:=by induction v using PV.casesOn<;>first|exact congrArg PV.f (aq h)|exact nomatch (show none=some i from h)
theorem fC{α β:Type}{o:Option α}{f:α->Option β}{b:β}(e:o.bind f=some b):∃a,o=some a/\f a=some b:=by
 induction o with
 |none=>exact nn e
 |some a=>exact⟨a,rfl,e⟩
theorem DA{v:MV}{p:PV}(h:v.I=some p):v=.a p:=by induction v<;>first|exact congrArg _ (aq h)|exact nn h
theorem jm{α:Type}{f:PV->Option α}{c:α->PV}(hf:∀{v i},f v=some i->v=c i){a b:MV}{p:α×α}(h:AP f a b=some p):a=.a (c p.1)/\b=.a (c p.2):=by obtain⟨x,e1,h⟩:=fC h;obtain⟨v,e2,e3⟩:=fC e1;obtain⟨y,e4,h⟩:=aC.mp h;obtain⟨w,e5,e6⟩:=fC e4;subst h;exact⟨(DA e2).trans (congrArg _ (hf e3)),(DA e5).trans (congrArg _ (hf e6))⟩
theorem qf{α:Type}{o:Option α}{x:Prop}{f:α->Prop}{G:Prop}(h:yb o x f)(k1:x->G)(k2:∀a,o=some a->f a->G):G:=by
 induction o with
 |none=>exact k1 h
 |some a=>exact k2 a rfl h
theorem lJ{α β:Type}{o:Option α}{x y:β}{f:α->β}{G:Prop}(h:yo o x f=y)(k1:x=y->G)(k2:∀a,o=some a->f a=y->G):G:=by
 induction o with
 |none=>exact k1 h
 |some a=>exact k2 a rfl h
theorem nF{r:Bool}{P:Prop}(h:(none:V8)=some r):P:=nomatch h
theorem yS{as:S3}(ih:∀a∈as,∀b r,rN a b=some r->(r=true↔a=b)):∀bs r,sH as bs=some r->(r=true↔as=bs):=by
 induction as with
 |nil=>
  intro bs r h
  induction bs using aQ with
  |nil=>obtain rfl:=si (show some true=some r from h);simp
  |cons b bs=>obtain rfl:=si (show some false=some r from h);simp
 |cons a as wY=>
  intro bs r h
  induction bs using aQ with
  |nil=>obtain rfl:=si (show some false=some r from h);simp
  |cons b bs=>
   change kx (rN a b) (sH as bs)=some r at h
   induction e:rN a b with
   |none=>rw[e]at h;exact nn h
   |some q=>
    rw[e]at h
    have z:=ih a aj b q e
    induction q with
    |false=>
     obtain rfl:=si (show some false=some r from h)
     exact⟨λe=>Bool.noConfusion e,λe=>(aO (z.mpr (fF e).1)).elim⟩
    |true=>
     rw[wY (λa h=>ih a (af _ h)) bs r h,z.mp rfl]
     exact⟨λe=>e▸rfl,λe=>(fF e).2⟩
theorem DP(a:PV):∀b r,rN a b=some r->(r=true↔a=b):=
 PV.rec (motive_1:=λa=>∀b r,rN a b=some r->(r=true↔a=b)) (motive_2:=λas=>∀a∈as,∀b r,rN a b=some r->(r=true↔a=b)) (λJ J h=>nF h) (λJ J J h=>nF h) (λa b r h=>by
  obtain⟨i,h1,h2⟩:=aC.mp (show b.J.map (a== ·)=some r from h)
  rw[l6 h1,<-h2,beq_iff_eq];exact⟨λe=>congrArg _ e,λe=>PV.d.inj e⟩) (λa b r h=>by
  obtain⟨i,h1,h2⟩:=aC.mp (show b.O.map (a== ·)=some r from h)
  rw[ql h1,<-h2,beq_iff_eq];exact⟨λe=>congrArg _ e,λe=>PV.k.inj e⟩) (λa ih b r h=>by
  obtain⟨i,h1,h2⟩:=lF.mp (show b.I.bind (sH a)=some r from h)
  rw[kD h1,yS ih i r h2];exact⟨λe=>congrArg _ e,λe=>PV.f.inj e⟩) (λJ J J J h=>nF h) (λJ J J J J J h=>nF h) (λJ J J J J h=>nF h) (λJ J J J J h=>nF h) (λJ J J h=>nF h) (λJ J J h=>nF h) (λJ J J h=>nF h)
  (λJ h=>nomatch h) (λa as x y c hc=>by
   rcases aF.mp hc with rfl|hc
   .exact x
   .exact y c hc) a
theorem SS{a b:PV}(h:rN a b=some true):a=b:=(DP a b true h).mp rfl
theorem Hd{a b:S3}(h:sH a b=some true):a=b:=(yS (λa J=>DP a) b true h).mp rfl
theorem l5{d:Nat}{x:PV}{P:Prop}(h0:IF x=false)(h1:∀d,bQ (d+1) x=IF x)(hk:bQ d x=true):P:=(aO (h0.symm.trans (Nat.casesOn (motive:=λd=>bQ d x=true->IF x=true) d id (λd k=>(h1 d).symm.trans k) hk))).elim
theorem wI(d:Nat):∀{x:PV},bQ d x=true->rN x x=some true:=
 Nat.strongRecOn (motive:=λd=>∀{x:PV},bQ d x=true->rN x x=some true) d λd ih x h=>by
  induction x using PV.casesOn with
  |d i=>exact congrArg some (beq_self_eq_true i)
  |k i=>exact congrArg some (beq_self_eq_true i)
  |f vs=>
   induction d using iV with
   |zero=>exact ft h
   |succ d=>
    have:=@ih d (bD d);show sH vs vs=some true;change vs.all (bQ d)=true at h
    induction vs with
    |nil=>rfl
    |cons v vs wY=>obtain⟨a,b⟩:=ak.mp h;show kx (rN v v) (sH vs vs)=_;rw[this a,wY b];rfl
  |_=>exact l5 rfl (λJ=>rfl) h

section
noncomputable def nP.I:Nat->nP->nP
 |0,b=>b
 |n+1,b=>match b with
  |.a _ r=>r.I n
  |.c=>.c
noncomputable def nP.J(b:nP):MS:=match b with
 |.a s _=>s
 |.c=>.j
noncomputable def MS.I(s:MS):nP:=match s with
 |.m _ b=>b
 |.k _ _ b=>b
 |.n b _=>b
 |_=>.c
theorem fW{b:Bool}{x y:Prop}(h:b=false)(k:x):tb (some b) x y:=by subst h;exact k
theorem kL{b:Bool}{x y:Prop}(h:b=true)(k:y):tb (some b) x y:=by subst h;exact k
theorem cG{α:Type}{o:Option α}{a:α}{f:α->Prop}(h:o=some a)(k:f a):ob o f:=by subst h;exact k
theorem Yh{b:Bool}{x:Prop}(h:b=true)(k:x):gb b x:=by subst h;exact k
theorem w7{α:Type}{o:Option α}{x:Prop}{f:α->Prop}(h:o=none)(k:x):yb o x f:=by subst h;exact k
theorem uh{α:Type}{o:Option α}{a:α}{x:Prop}{f:α->Prop}(h:o=some a)(k:f a):yb o x f:=by subst h;exact k
theorem dP{p x:Prop}[Decidable p](h:p)(k:x):gb (decide p) x:=Yh (decide_eq_true h) k
theorem XY{a b:EV}{p q:Bool}{loc:dj}{s:St}{k:KV}(ha:∀k:KV,k (.a (.g p)) s->a loc s k)(hb:∀k:KV,k (.a (.g q)) s->b loc s k)(h:k (.a (.g (p||q))) s):eOr a b loc s k:=ha _ (by induction p<;>first|exact h|exact hb _ h)
theorem ch{a b:EV}{p q:Bool}{loc:dj}{s:St}{k:KV}(ha:∀k:KV,k (.a (.g p)) s->a loc s k)(hb:∀k:KV,k (.a (.g q)) s->b loc s k)(h:k (.a (.g (p&&q))) s):B6 a b loc s k:=ha _ (by induction p<;>first|exact h|exact hb _ h)
theorem nE{α:Type}{p r:List α}{v:α}:(p++v::r)[p.length]?=some v:=by rw[bP (aH _),iY];rfl
theorem pK{α:Type}{p:List α}:(p++[])[p.length]?=none:=by rw[az];exact aV (aH _)
section
variable{tgt:Nat ⊕ S5}{it:It}{b:XV}{vs:S3}{k:KX}
end
section
variable{tgt:Nat ⊕ S5}{it:It}{cQ gF:EV}{loc:dj}{vs:S3}{k:S3->St->Prop}
end
structure Fo(ι σ:Type)where
 F:ι->σ->dj
 S:σ->St
 P:Nat->σ->Prop
theorem Q5{ι σ α:Type}{tgt:Nat ⊕ S5}{it:It}{b:XV}{k:KX}{f:α->PV}{vs:List α}(Z:Fo ι σ)(g:σ->α->σ)(tZ:∀x j,mw it j (Z.S x)=some (vs.map f)[j]?)
  (hb:∀m a x v,v∈vs->Z.P (m+1) x->Z.P m (g x v)/\∀q:KX,(∀a,q .a (Z.F a (g x v)) (Z.S (g x v)))->eU tgt (.a (f v)) (Z.F a x) λloc=>b loc (Z.S x) q)(r:List α):
  ∀p:List α,vs=p++r->∀a x,Z.P r.length x->(Z.P 0 (r.foldl g x)->∀a,k .a (Z.F a (r.foldl g x)) (Z.S (r.foldl g x)))->forLoop tgt it b (r.length+1) p.length (Z.F a x) (Z.S x) k:=by
 induction r with
 |nil=>exactλp e a x h K=>cG (tZ _ _) (w7 (by rw[dR,e,pK];rfl) (K h a))
 |cons v r ih=>
  intro p e a x h K;obtain⟨h1,h2⟩:=hb r.length a x v (e▸bw _ aj) h;refine cG (tZ _ _) (uh (a:=f v) (by rw[dR,e,nE];rfl) (h2 _ λa=>?_))
  have:=ih (p++[v]) (by rw[e,aK];rfl) a (g x v) h1 K
  rwa [aa]at this
theorem k8{ι σ α:Type}{tgt:Nat ⊕ S5}{it:It}{b:XV}{k:KX}{f:α->PV}{vs:List α}(Z:Fo ι σ)(g:σ->α->σ)(tZ:∀x j,mw it j (Z.S x)=some (vs.map f)[j]?){m:Nat}(hm:m=vs.length){a:ι}{x:σ}(h:Z.P vs.length x)(K:Z.P 0 (vs.foldl g x)->∀a,k .a (Z.F a (vs.foldl g x)) (Z.S (vs.foldl g x)))
  (hb:∀m a x v,v∈vs->Z.P (m+1) x->Z.P m (g x v)/\∀q:KX,(∀a,q .a (Z.F a (g x v)) (Z.S (g x v)))->eU tgt (.a (f v)) (Z.F a x) λloc=>b loc (Z.S x) q):forLoop tgt it b (m+1) 0 (Z.F a x) (Z.S x) k:=by
 subst hm;exact Q5 Z g tZ hb vs [] rfl a x h K
noncomputable def zR{σ α:Type}(g:σ->α->σ)(o:σ->α->S3):σ->List α->S3
 |_,[]=>[]
 |x,v::r=>o x v++zR g o (g x v) r
structure Co(σ:Type)where
 S:σ->St
 P:σ->Prop
theorem MF{σ α:Type}{tgt:Nat ⊕ S5}{it:It}{cQ gF:EV}{loc:dj}{k:S3->St->Prop}{f:α->PV}{vs:List α}(Z:Co σ)(g:σ->α->σ)(o:σ->α->S3)(tZ:∀x j,mw it j (Z.S x)=some (vs.map f)[j]?)
  (hb:∀x v,v∈vs->Z.P x->Z.P (g x v)/\∀q:S3->St->Prop,q (o x v) (Z.S (g x v))->eU tgt (.a (f v)) loc λloc=>cQ loc (Z.S x) λt s=>tb (dB s t) (q [] s) (gF loc s λy s=>pb y λy=>q [y] s))(r:List α):
  ∀p:List α,vs=p++r->∀a x,Z.P x->(Z.P (r.foldl g x)->k (a++zR g o x r) (Z.S (r.foldl g x)))->compLoop tgt it cQ gF loc (r.length+1) p.length a (Z.S x) k:=by
 induction r with
 |nil=>exactλp e a x h K=>cG (tZ _ _) (w7 (by rw[dR,e,pK];rfl) (by rw[<-az a];exact K h))
 |cons v r ih=>
  intro p e a x h K;obtain⟨h1,h2⟩:=hb x v (e▸bw _ aj) h;refine cG (tZ _ _) (uh (a:=f v) (by rw[dR,e,nE];rfl) ?_)
  have:=ih (p++[v]) (by rw[e,aK];rfl) (a++o x v) (g x v) h1 (by rw[aK];exact K)
  rw[aa]at this
  have:=h2 (λy s=>compLoop tgt it cQ gF loc (r.length+1) (p.length+1) (a++y) s k) this
  rwa [az]at this
theorem zK{σ α:Type}{tgt:Nat ⊕ S5}{it:It}{cQ gF:EV}{loc:dj}{k:S3->St->Prop}{f:α->PV}{vs:List α}(Z:Co σ)(g:σ->α->σ)(o:σ->α->S3)(tZ:∀x j,mw it j (Z.S x)=some (vs.map f)[j]?){m:Nat}(hm:m=vs.length){x:σ}(h:Z.P x)(K:Z.P (vs.foldl g x)->k (zR g o x vs) (Z.S (vs.foldl g x)))
  (hb:∀x v,v∈vs->Z.P x->Z.P (g x v)/\∀q:S3->St->Prop,q (o x v) (Z.S (g x v))->eU tgt (.a (f v)) loc λloc=>cQ loc (Z.S x) λt s=>tb (dB s t) (q [] s) (gF loc s λy s=>pb y λy=>q [y] s)):compLoop tgt it cQ gF loc (m+1) 0 [] (Z.S x) k:=by
 subst hm;exact MF Z g o tZ hb vs [] rfl [] x h K
theorem FF{α:Type}{tgt:Nat ⊕ S5}{it:It}{cQ gF:EV}{loc:dj}{k:S3->St->Prop}{f:α->PV}{vs:List α}{S:St}(p:α->Bool)(tZ:∀j,mw it j S=some (vs.map f)[j]?){m:Nat}(hm:m=vs.length)(K:k ((vs.filter p).map f) S)
  (hb:∀v,v∈vs->∀q:S3->St->Prop,q (if p v then[f v]else[]) S->eU tgt (.a (f v)) loc λloc=>cQ loc S λt s=>tb (dB s t) (q [] s) (gF loc s λy s=>pb y λy=>q [y] s)):compLoop tgt it cQ gF loc (m+1) 0 [] S k:=by
 refine zK (σ:=Unit) ⟨λJ=>S,λJ=>True⟩ (λJ J=>()) (λJ v=>if p v then[f v]else[]) (λJ=>tZ) hm (x:=()) trivial (λJ=>?_) λJ v hv J=>⟨trivial,hb v hv⟩
 have:∀vs:List α,zR (λ(_:Unit) _=>()) (λJ v=>if p v then[f v]else[]) () vs=(vs.filter p).map f:=λvs=>by
  induction vs with
  |nil=>rfl
  |cons v r ih=>
   show(if p v then[f v]else[])++zR _ _ () r=_
   rw[ih,List.filter_cons]
   induction p v<;>rfl
 rw[this];exact K
theorem So{v m:Int}{K:Int->Prop}(hm:0<m)(h:∀v,0<=v->v<m->K v):ob (nA .c v m) K:=cG (if_neg (by exactλe'=>Xq [.b fU ja,.f ja fU] rfl hm e')) (h _ (Int.fmod_nonneg_of_pos _ hm) (Int.fmod_lt_of_pos _ hm))
variable{n:Nat}{rg:V5}{ni:S1}{k:KP}
noncomputable abbrev dC(p:Int)(vs:S1):ah:=.a [.d p,.j (vs.map .d)]
theorem qk{m:Int}{p:Nat}{vs:S1}{r:V6}(hl:vs.length<1000)(hm:0<m)(K:∀v,0<=v->v<m->k (.d v) ⟨dC (p+1) vs::r,rg,ni⟩):
  av (n+1) 76 [.a (.e 0),.a (.d m)] ⟨dC p vs::r,rg,ni⟩ k:=by
 apply in_w;show tb (some (decide ((p:Int)<(vs.map PV.d).length))) (ob (nA .c (p+1) m) λz=>k (.d z) ⟨dC (p+1) vs::r,rg,ni⟩)
  (ob (kI (vs.map PV.d) p) λv=>tF .c (.a v) (.a (.d m)) ⟨dC (p+1) vs::r,[]::rg,ni⟩ λv s=>eF k (.b v) [] s)
 by_cases h:(p:Int)<(vs.map PV.d).length
 .rw[ao]at h
  have g:p<vs.length:=dK.mp h;refine kL (decide_eq_true (by rw[ao];exact h)) (cG (a:=.d vs[p]) (show(vs.map PV.d)[p]?=_ by rw[dR,b7 g];rfl) ?_)
  exact So (v:=vs[p]) hm K
 .exact fW (decide_eq_false h) (So hm K)
end

def Ni(k r:PV):Bool:=rN r k==some true
noncomputable def wR:Nat->S3->S8
 |_,[]=>[]
 |i,r::rs=>(r,.d i)::wR (i+1) rs
noncomputable def dS(k:PV):S3->aap
 |[]=>none
 |r::rs=>if Ni k r then some 0 else(dS k rs).map (· +1)
theorem tY(k:PV):∀(i:Nat)(T:S3),bA k (wR i T)=(dS k T).map λj=>.d ((i+j:Nat):Int)
 |i,[]=>rfl
 |i,r::rs=>by
  have ih:=tY k (i+1) rs;unfold bA at ih⊢
  simp only[wR,bK,dS];show Option.map _ (match Ni k r with|true=>_|false=>_)=_
  induction h:Ni k r
  .simp only[ih,Bool.false_eq_true,if_false,Option.map_map]
   induction dS k rs with
   |none=>rfl
   |some j=>simp only[Option.map_some,Function.comp,dZ,fE 1 j]
  .rfl
theorem BG(k:PV):∀(i:Nat)(T:S3),dS k T=none->cY k (.d ((i+T.length:Nat):Int)) (wR i T)=wR i (T++[k])
 |i,[],_=>rfl
 |i,r::rs,h=>by
  simp only[dS]at h
  induction hr:Ni k r
  .rw[hr]at h
   simp only[Bool.false_eq_true,if_false,mj]at h
   have ih:=BG k (i+1) rs h;have hk:fB k (r,PV.d i)=false:=hr;simp only[wR,cY,hk,iM,iL];rw[show i+(rs.length+1)=i+1+rs.length by exact gT (mK (.a ja (.a jb aU)) (.a (.a ja aU) jb) [] rfl) (mK (.a (.a ja aU) jb) (.a ja (.a jb aU)) [] rfl),ih];rfl
  .rw[hr]at h;exact sn h
theorem FY:∀(i:Nat)(T:S3),(wR i T).length=T.length
 |_,[]=>rfl
 |i,r::rs=>congrArg (· +1) (FY (i+1) rs)
theorem yh{k:PV}:∀{T:S3}{j:Nat},dS k T=some j->∃r,T[j]?=some r/\Ni k r=true
 |[],j,h=>by exact nn h
 |r::rs,j,h=>by
  simp only[dS]at h
  split at h
  .obtain rfl:=si h;exact⟨r,rfl,by assumption⟩
  .obtain⟨j',h1,h2⟩:=aC.mp h;subst h2;obtain⟨r',a,b⟩:=yh h1;exact⟨r',a,b⟩
theorem HA{k:PV}{T:S3}(h:dS k T=some j):dS k (T++X)=some j:=by
 induction T generalizing j with
 |nil=>exact nn h
 |cons r rs ih=>
  simp only[dS,iM]at h⊢
  split
  .rename_i hr;rw[if_pos hr]at h;exact h
  .rename_i hr;rw[if_neg hr]at h
   obtain⟨j',h1,h2⟩:=aC.mp h;rw[ih h1,<-h2];rfl
noncomputable def iG(k f:Int):S3:=[.d 8,.f [.f [.k "p",.d k,.d 0,.d 0]],.f [],.f [],.f [],.f [],.d f]
def T1:S3:=[.f [.d 1,.k "any"],.f [.d 1,.k "unknown"],.f [.d 1,.k "never"],.f [.d 1,.k "void"],.f [.d 1,.k "undefined"],.f [.d 1,.k "null"],
 .f [.d 1,.k "string"],.f [.d 1,.k "number"],.f [.d 2,.d 0,.d 0],.f [.d 2,.d 1,.d 0],.f [.d 1,.k "object"],.f [.d 8,.f [],.f [],.f [],.f [],.f [],.d 0],
 .f [.d 6,.f [.d 8,.d 9]],.f [.d 1,.k "error"],.f [.d 2,.d 0,.d 1],.f [.d 2,.d 1,.d 1],.f [.d 4,.d 1,.d 0],.f [.d 6,.f [.d 5,.d 16]],.f [.d 3,.k "a",.d 0],
 .f [.d 6,.f [.d 7,.d 18]],.f [.d 3,.k "b",.d 0],.f [.d 6,.f [.d 4,.d 6]],.f [.d 6,.f [.d 3,.d 6]],.f [.d 4,.d 1,.d 1],.f (iG 23 1),.f [.d 3,.k "a",.d 1],.f [.d 3,.k "b",.d 1]]
noncomputable def DZ:ah:=.g 4 [(9,.e 2),(11,.e 3),(12,.j [.h]),(13,.j []),(14,.j []),(15,.j []),(16,.o [] []),(17,.o [] []),(18,.d 0),(19,.d 0)]
abbrev TB(d:ah)(X:S3)(r:V6):V6:=d::DZ:: .a (T1++X):: .e true (wR 0 (T1++X))::r
abbrev S4(d:ah)(X:S3)(r:V6)(rg:V5)(ni:S1):St:=⟨TB d X r,rg,ni⟩
variable{d:ah}{r:V6}{rg:V5}{ni:S1}{k:KP}
def cj(X:S3)(row:PV):Int×S3:=match dS row (T1++X)with
 |some j=>(j,X)
 |none=>((T1++X).length,X++[row])
theorem Az{row:PV}(hr:zP row=true)(hX:X.length<900)(K:k (.d (cj X row).1) (S4 d (cj X row).2 r rg ni)):av (n+1) 8 [.a (.e 1),.a row] (S4 d X r rg ni) k:=by
 apply in_w;have l:(T1++X).length<1000:=by rw[aa];show 27+X.length<1000;exact fJ (.a jD ja) oR [.b ja eH] rfl hX
 have go:∀{T:S3},T.length<1000->k (.d (match dS row T with|some j=>(j:Int)|none=>T.length)) ⟨match dS row T with|some j=>d::DZ:: .a T:: .e true (wR 0 T)::r|none=>d::DZ:: .a (T++[row]):: .e true (wR 0 (T++[row]))::r,rg,ni⟩->
   ob (if zP row then some (bA row (wR 0 T)).isSome else none) λb=>tb (some b) (gb (decide (T.length<100000)) (gb (zP row&&decide ((wR 0 T).length<100000)) (k (.d T.length) ⟨d::DZ:: .a (T++[row]):: .e true (cY row (.d T.length) (wR 0 T))::r,rg,ni⟩)))
    (gb (zP row) (ob (bA row (wR 0 T)) λv=>k v ⟨d::DZ:: .a T:: .e true (wR 0 T)::r,rg,ni⟩)):=λ{T} l K=>by
  rw[hr,tY]
  induction h:dS row T with
  |some j=>
   rw[h,<-gc j]at K
   exact K
  |none=>
   rw[h]at K
   have e:=BG row 0 T h;rw[gc]at e
   exact dP (by exact fJ ja aX [.b ja oR] rfl l) (dP (by rw[FY];exact fJ ja aX [.b ja oR] rfl l) (e▸K))
 refine go l ?_;unfold cj at K
 induction h:dS row (T1++X)with
 |some j=>rw[h]at K;exact K
 |none=>
  rw[h]at K
  dsimp only at K⊢
  rw[aK];exact K
noncomputable abbrev tH:S1:=[0,1,2,3,4,5,6,7,8,9,13,14,15,16,18,20,23,25,26]
noncomputable def nM(k:Int):Int:=if k=14 then 8 else if k=15 then 9 else if k=23 then 16 else if k=25 then 18 else if k=26 then 20 else k
noncomputable def Cw(k:Int):Int:=if k=14 then 8 else if k=15 then 9 else if k=23 then 16 else if k=25 then 18 else if k=26 then 20 else-1
noncomputable def Cu(k:Int):Int:=if k=20\/k=25\/k=26\/k=18 then 6 else if k=23\/k=16 then 7 else-1
theorem fN{α:Type}{f g:Int->α}{l:S1}(h:l.map f=l.map g)(hx:x∈l):f x=g x:=bV.mp h x hx
theorem JS(h:p∈tH)(K:k (.d (nM p)) (S4 d X r rg ni)):av (n+2) 21 [.a (.e 1),.a (.d p)] (S4 d X r rg ni) k:=by rw[cO];exact(fN (f:=λp=>gI (n+2) 21 [.a (.e 1),.a (.d p)] (S4 d X r rg ni) k) (g:=λp=>k (.d (nM p)) (S4 d X r rg ni)) (by kernel_rfl) h).mpr K
noncomputable def rK(k:Int):S1:=if k=2 then[]else if k=12 then[8,9]else[k]
abbrev lB:S1:=12::tH
theorem zA(h:p∈lB)(K:k (.f ((rK p).map .d)) (S4 d X r rg ni)):av (n+1) 11 [.a (.e 1),.a (.d p)] (S4 d X r rg ni) k:=by rw[cO];exact(fN (f:=λp=>gI (n+1) 11 [.a (.e 1),.a (.d p)] (S4 d X r rg ni) k) (g:=λp=>k (.f ((rK p).map .d)) (S4 d X r rg ni)) (by kernel_rfl) h).mpr K

noncomputable abbrev gD(G:S1):S8:=G.map λk=>(.d k,.d 1)
noncomputable def lN(G:S1)(k:Int):S1:=if k∈G then G else G++[k]
theorem Kp(k g:Int):fB (.d k) (.d g,.d 1)=(g==k):=by show(some (g==k)==some true)=_;induction g==k<;>rfl
theorem sS(k:Int):∀G:S1,cY (.d k) (.d 1) (gD G)=gD (lN G k)
 |[]=>rfl
 |g::G=>by
  have ih:=sS k G;show(if fB (.d k) (.d g,.d 1)=true then(PV.d g,PV.d 1)::gD G else(PV.d g,PV.d 1)::cY (.d k) (.d 1) (gD G))=_
  rw[Kp,ih];unfold lN;by_cases h:g=k
  .subst h;rw[if_pos (beq_self_eq_true _),if_pos aj];rfl
  .rw[if_neg (λe=>h (eq_of_beq e))]
   by_cases hm:k∈G
   .rw[if_pos hm,if_pos (af _ hm)];rfl
   .rw[if_neg hm,if_neg (λe=>(aF.mp e).elim (λe=>h e.symm) hm)];rfl
theorem rH(k:Int):∀G:S1,(bA (.d k) (gD G)).isSome=decide (k∈G)
 |[]=>rfl
 |g::G=>by
  have ih:=rH k G;unfold bA at ih⊢
  rw[show gD (g::G)=(PV.d g,PV.d 1)::gD G from rfl,bK,Kp]
  by_cases h:g=k
  .subst h;rw[beq_self_eq_true,decide_eq_true aj];rfl
  .rw[beq_eq_false_iff_ne.mpr h,ih];exact decide_eq_decide.mpr ⟨af _,λe=>(aF.mp e).resolve_left (gE h)⟩
abbrev Jb(j:Int)(G:S1):V8:=some (bA (.d j) (gD G)).isSome
theorem uQ(j:Int)(G:S1):Jb j G=some (decide (j∈G)):=by unfold Jb;rw[rH]
theorem Gl:∀G:S1,uO (gD G)=some G
 |[]=>rfl
 |k::G=>by show((uO (gD G)).map (k:: ·))=_;rw[Gl G];rfl
noncomputable def BV(G:S1):Int:=if 0∈G then 0 else if 13∈G then 13 else if 1∈G then 1 else-1
def lC(G:S1):S1:=if(8∈G\/14∈G)/\(9∈G\/15∈G)then lN (lN G 8) 9 else G
theorem nu{p:Prop}{x y:Prop}(e:b=true↔p)(h0:¬p->x)(h1:p->y):tb (some b) x y:=by
 induction b
 .exact h0 λh=>aO (e.mpr h)
 .exact h1 (e.mp rfl)
theorem BW{p:Prop}[Decidable p]{x y:Prop}(h0:¬p->x)(h1:p->y):tb (some (decide p)) x y:=by
 by_cases h:p
 .exact kL (decide_eq_true h) (h1 h)
 .exact fW (decide_eq_false h) (h0 h)
variable{t:Int}{pm cs:V6}
abbrev gS(pm:V6)(G:S1)(cs:V6)(rg:V5)(ni:S1):St:=⟨pm,(.e false (gD G)::cs)::rg,ni⟩
theorem Zs(K:k (.d (BV G)) (gS pm G cs rg ni)):av (n+1) 16 [.b 0 0] (gS pm G cs rg ni) k:=by
 apply in_w;show ob (Jb 0 G) λb=>tb (some b) (ob (Jb 13 G) λb=>tb (some b) (ob (Jb 1 G) λb=>tb (some b) (k (.d (-1)) (gS pm G cs rg ni)) (k (.d 1) (gS pm G cs rg ni))) (k (.d 13) (gS pm G cs rg ni))) (k (.d 0) (gS pm G cs rg ni))
 rw[uQ,uQ,uQ];unfold BV at K
 exact BW (λh=>by rw[if_neg h]at K;exact BW (λh=>by rw[if_neg h]at K;exact BW (λh=>by rw[if_neg h]at K;exact K) (λh=>by rw[if_pos h]at K;exact K)) (λh=>by rw[if_pos h]at K;exact K)) (λh=>by rw[if_pos h]at K;exact K)
theorem VL(hl:G.length<999)(K:k .h (gS pm (lC G) cs rg ni)):av (n+1) 14 [.b 0 0] (gS pm G cs rg ni) k:=by
 have go:(8∈G\/14∈G)/\(9∈G\/15∈G)->gb (decide ((gD G).length<100000)) (gb (decide ((cY (.d 8) (.d 1) (gD G)).length<100000)) (k .h ⟨pm,(.e false (cY (.d 9) (.d 1) (cY (.d 8) (.d 1) (gD G)))::cs)::rg,ni⟩)):=λh=>by
  unfold lC at K
  rw[if_pos h]at K
  rw[sS,sS];have l2:(lN G 8).length<=G.length+1:=by unfold lN;split;exact bL _;exact bZ aa
  exact dP (by rw[ao];exact fJ ja aX [.b ja (.n 999)] rfl hl) (dP (by rw[ao];exact fh ja aX [.b jb (.n 999),.a ja (.a jb aU)] rfl hl l2) K)
 have no:¬((8∈G\/14∈G)/\(9∈G\/15∈G))->k .h (gS pm G cs rg ni):=λh=>by
  unfold lC at K
  rw[if_neg h]at K;exact K
 have g:∀{j:Int}{e:EV},(∀{loc s k},k (.a (.d j)) s->e loc s k)->∀k':KV,k' (.a (.g (decide (j∈G)))) ⟨pm,[]::(.e false (gD G)::cs)::rg,ni⟩->jG .b e (bx 0) [some (.b 1 0)] ⟨pm,[]::(.e false (gD G)::cs)::rg,ni⟩ k':=λ{j e} he k' h=>he (by show k' (.a (.g (bA (.d j) (gD G)).isSome)) _;rw[rH];exact h)
 refine in_w<|ch (λk h=>XY (g (j:=8) (e:=jP 14) λh=>h) (g (j:=14) (e:=jP 13) λh=>h) h) (λk h=>XY (g (j:=9) (e:=jP 12) λh=>h) (g (j:=15) (e:=jP 11) λh=>h) h) ?_
 refine nu (by simp) no go
def GA(G:S1)(t:Int):Bool:= !decide (Cw t∈G)&& !decide (Cu t∈G)
theorem zh(h:p∈lB)(K:k (.g (GA G p)) (gS (TB d X r) G cs rg ni)):av (n+2) 15 [.a (.e 1),.b 0 0,.a (.d p)] (gS (TB d X r) G cs rg ni) k:=by
 rw[cO];refine(fN (f:=λp=>gI (n+2) 15 [.a (.e 1),.b 0 0,.a (.d p)] (gS (TB d X r) G cs rg ni) k) (g:=λp=>tb (Jb (Cw p) G) (ob (Jb (Cu p) G) λb=>k (.g (!b)) (gS (TB d X r) G cs rg ni)) (k (.g false) (gS (TB d X r) G cs rg ni))) (by kernel_rfl) h).mpr ?_
 rw[uQ,uQ];unfold GA at K
 exact BW (λh=>by rw[decide_eq_false h]at K;exact K) λh=>by rw[decide_eq_true h]at K;exact K
theorem Bl{α:Type}[DecidableEq α]:∀{l A:List α},l.Nodup->(∀x∈l,x∈A)->l.length<=A.length
 |[],_,_,_=>bI _
 |x::l,A,hn,hs=>by
  rw[cD]at hn
  have hx:=hs x aj;have t9:=Bl (l:=l) (A:=A.erase x) hn.2 λy hy=>(List.mem_erase_of_ne (λe=>hn.1 (by rw[<-e];exact hy))).mpr (hs y (af _ hy))
  rw[List.length_erase_of_mem hx]at t9
  exact Nat.succ_le_of_lt (bB t9 (Nat.sub_lt (List.length_pos_of_mem hx) Nat.one_pos))
theorem pn{k:Int}:x∈lN G k↔x∈G\/x=k:=by
 unfold lN;split
 .rename_i hm;exact⟨.inl,λh=>h.elim _root_.id λe=>e▸hm⟩
 .rw[aS,aB]
theorem EY{k:Int}(h:G.Nodup):(lN G k).Nodup:=by
 unfold lN;split
 .exact h
 .rename_i hm;exact List.nodup_append.mpr ⟨h,List.pairwise_singleton _ _,λa ha b hb e=>hm (aB.mp hb▸e▸ha)⟩
structure qB(A G:S1):Prop where
 a:G.Nodup
 b:∀x∈G,x∈A
theorem qB.I{k:Int}(g:qB A G)(h:k∈A):qB A (lN G k):=⟨EY g.a,λx hx=>(pn.mp hx).elim (g.b x) λe=>e▸h⟩
theorem qB.J(g:qB A G):G.length<=A.length:=Bl g.a g.b
theorem qB.V:∀{l G:S1},qB A G->(∀x∈l,x∈A)->qB A (l.foldl lN G)
 |[],_,g,_=>g
 |x::l,G,g,h=>qB.V (l:=l) (g.I (h x aj)) λy hy=>h y (af _ hy)
theorem Bq:∀{l:S1}{G:S1},x∈l.foldl lN G↔x∈G\/x∈l
 |[],G=>⟨.inl,λh=>h.resolve_right nofun⟩
 |y::l,G=>by rw[jo,Bq,pn,aF,or_assoc]
theorem yG{p:Prop}(h:G.length<100000)(k:p):gb (decide ((gD G).length<100000)) p:=dP (by rw[ao];exact h) k
abbrev dn:XV:=bU (mZ (bx 2) (bx 4) (bN (.d 1))) eG
noncomputable abbrev Gz(a0 a1 a3 a4:S7):dj:=[a0,a1,some (.b 0 0),a3,a4,none,none,none]
theorem Zq(hA:A.length<60){k:KX}{a0 a1 a4:S7}{ks:S1}(hm:m=ks.length)(g:qB A G)(h:∀x∈ks,x∈A)(K:∀a4,k .a (Gz a0 a1 a3 a4) (gS pm (ks.foldl lN G) [] rg ni)):
  forLoop (.inl 4) (.a (ks.map .d)) dn (m+1) 0 (Gz a0 a1 a3 a4) (gS pm G [] rg ni) k:=
 k8 ⟨λa J=>Gz a0 a1 a3 a,λG=>gS pm G [] rg ni,λJ=>qB A⟩ lN (λJ J=>rfl) hm g (λJ=>K) λJ a G v hv hy=>⟨hy.I (h v hv),λq hq=>yG (by have:=hy.J;exact fh ja aX [.b jb ki,.a ja jb] rfl hA this) (sS v G▸hq _:q .a (Gz a0 a1 a3 (some (.a (.d v)))) ⟨pm,[.e false (cY (.d v) (.d 1) (gD G))]::rg,ni⟩)⟩
theorem PT(hA:A.length<60){a0 a1 a4:S7}{ks:S1}(hm:m=ks.length)(g:qB A G)(h:∀x∈ks,x∈A){q:KX}(K:∀a4,q .a (Gz a0 a1 a3 a4) (gS pm (ks.foldl lN G) [] rg ni)):
  forLoop (.inl 4) (.a (ks.map .d)) dn (m+1) 0 (Gz a0 a1 a3 a4) (gS pm G [] rg ni) λfl loc s=>fb fl (q .a loc s) (q fl loc s):=Zq hA hm g h K
abbrev dk(cl:CL):XV:=bU (BU (.inl 4) (DL (tE cl 11 (bO (bx 0) (bO (bx 3) d9)))) dn) eG
def mP(ts:S1)(G:S1):S1:=ts.foldl (λG t=>(rK t).foldl lN G) G
theorem pL:∀{ts G:S1},x∈mP ts G↔x∈G\/∃t∈ts,x∈rK t
 |[],G=>⟨.inl,λh=>h.resolve_right λ⟨_,h,_⟩=>nomatch h⟩
 |t::ts,G=>by show x∈mP ts _↔_;rw[pL,Bq];simp only[aF,exists_eq_or_imp,or_assoc]
theorem qB.O:∀{ts G:S1},qB A G->(∀t∈ts,∀x∈rK t,x∈A)->qB A (mP ts G)
 |[],_,g,_=>g
 |t::ts,G,g,h=>qB.O (ts:=ts) (g.V (h t aj)) λu hu=>h u (af _ hu)
structure Nt(d:ah)(X:S3)(r:V6)(ni:S1)(A:S1):Prop where
 b:A.length<60
 g:(8:Int)∈A
 f:(9:Int)∈A
 a:∀t∈A,∀x∈rK t,x∈A
 e:∀{n:Nat}{rg:V5}{k:KP}{p:Int},p∈A->k (.f ((rK p).map .d)) (S4 d X r rg ni)->av (n+1) 11 [.a (.e 1),.a (.d p)] (S4 d X r rg ni) k
 c:∀{n:Nat}{G:S1}{cs:V6}{rg:V5}{k:KP}{p:Int},p∈A->k (.g (GA G p)) (gS (TB d X r) G cs rg ni)->av (n+2) 15 [.a (.e 1),.b 0 0,.a (.d p)] (gS (TB d X r) G cs rg ni) k
theorem UR(Z:Nt d X r ni A){k:KX}{ts:S1}{v:MV}(tZ:∀G j,mw it j (gS (TB d X r) G [] rg ni)=some (ts.map PV.d)[j]?)(hm:m=ts.length){G:S1}{a3 a4:S7}(g:qB A G)(h:∀t∈ts,t∈A)(K:∀a3 a4,k .a (Gz (some (.a (.e 1))) (some v) a3 a4) (gS (TB d X r) (mP ts G) [] rg ni)):forLoop (.inl 3) it (dk (av (n+1))) (m+1) 0 (Gz (some (.a (.e 1))) (some v) a3 a4) (gS (TB d X r) G [] rg ni) k:=k8 (ι:=S7×S7) (a:=(a3,a4)) ⟨λa J=>Gz (some (.a (.e 1))) (some v) a.1 a.2,λG=>gS (TB d X r) G [] rg ni,λJ=>qB A⟩ (λG t=>(rK t).foldl lN G) tZ hm g (λJ a=>K a.1 a.2) λJ a G t ht hy=>⟨hy.V (Z.a t (h t ht)),λq hq=>by refine Z.e (h t ht) ?_;exact PT Z.b (ao ..) hy (Z.a t (h t ht)) λa4=>hq (some (.a (.d t)),a4)⟩
theorem uC{k:Int}:∀{l:S1},x∈ig k l↔x=k\/x∈l
 |[]=>aF
 |y::r=>by
  unfold ig;split
  .exact aF
  .rw[aF,uC (l:=r),aF,or_left_comm]
theorem pZ:∀{l:S1},x∈mu l↔x∈l
 |[]=>xP
 |y::r=>uC.trans (by rw[pZ (l:=r),aF])
theorem uD{k:Int}:∀{l:S1},(ig k l).length=l.length+1
 |[]=>rfl
 |y::r=>by
  unfold ig;split
  .rfl
  .exact congrArg (· +1) (uD (l:=r))
theorem tP:∀{l:S1},(mu l).length=l.length
 |[]=>rfl
 |y::r=>uD.trans (congrArg (· +1) tP)
def W8(X:S3)(top:Int)(K:S1):Int×S3:=if 0<=top then(top,X)else match K with
 |[]=>(2,X)
 |[k]=>(k,X)
 |ks=>cj X (.f [.d 6,.f (ks.map .d)])
def qH(Jl:S1):S1:=(mu Jl).filter (GA Jl)
theorem qB.c'(g:qB A G)(h8:8∈A)(h9:9∈A):qB A (lC G):=by
 unfold lC;split
 .exact(g.I h8).I h9
 .exact g
structure Uz(v:MV)(d:ah)(r:V6)(rg:V5)(ni:S1)(ts:S1)(it:It):Prop where
 b:∀{X},Ez v.J (gS (TB d X r) [] [] rg ni)=some it
 a:∀{X},iC it (gS (TB d X r) [] [] rg ni)=ts.length
 c:∀{X G j},mw it j (gS (TB d X r) G [] rg ni)=some (ts.map PV.d)[j]?
def qu(X:S3)(ts:S1):Int×S3:=W8 X (BV (mP ts [])) (qH (lC (mP ts [])))
theorem zb(Z:Nt d X r ni A)(hX:X.length<900){ts:S1}{v:MV}(L:Uz v d r rg ni ts it)(h:∀t∈ts,t∈A)(K:k (.d (qu X ts).1) (S4 d (qu X ts).2 r rg ni)):av (n+3) 17 [.a (.e 1),v] (S4 d X r rg ni) k:=by
 apply in_w;show ob (Ez v.J (gS (TB d X r) [] [] rg ni)) _;rw[L.b];show forLoop (.inl 3) it (dk (av (n+2))) _ _ _ _ _;show forLoop (.inl 3) it (dk (av (n+2))) (iC it (gS (TB d X r) [] [] rg ni)+1) 0 (Gz (some (.a (.e 1))) (some v.J) none none) (gS (TB d X r) [] [] rg ni) _;rw[L.a];have g0:qB A []:=⟨qi,λJ h=>nomatch h⟩
 have ha:=Z.b;refine UR Z (λJ J=>L.c) rfl g0 h λa3 a4=>?_
 have g:=g0.O λt ht=>Z.a t (h t ht)
 unfold qu at K
 generalize mP ts []=G at *
 refine Zs ?_;unfold W8 at K
 refine BW (p:=BV G>=0) (λht=>?_) (λht=>?_)
 .rw[if_neg ht]at K
  have gl:=g.J;refine VL (by exact fh ja (.n 999) [.b jb ki,.a ja jb] rfl ha gl) ?_
  have gj:=g.c' Z.g Z.f;generalize lC G=Jl at *
  refine cG (o:=uO (gD Jl)) (Gl Jl) ?_;have gl:=gj.J;refine dP (p:=Jl.length<64) (by exact fh ja NQ [.b jb ki,.a ja jb] rfl ha gl) ?_
  refine dP (p:=((mu Jl).map PV.d).length<=100000) (by rw[ao,tP];exact mK ja aX [.b jb ki,.a ja jb] rfl ha gl) ?_
  refine FF (GA Jl) (S:=gS (TB d X r) Jl [] rg ni) (λJ=>rfl) (ao ..) ?_ λt ht q hq=>?_
  rotate_left
  .refine Z.c (gj.b t (pZ.mp ht)) ?_
   induction z:GA Jl t<;>rw[z]at hq<;>exact hq
  have kl:(qH Jl).length<60:=bB (mU ..) (by rw[tP];exact fh ja ki [.b jb ki,.a ja jb] rfl ha gl)
  unfold qH at K kl
  generalize (mu Jl).filter (GA Jl)=Q at *
  match Q,K,kl with
  |[],K,kl=>exact K
  |[a],K,kl=>exact K
  |a::b::Q,K,kl=>
   have e:(List.map PV.d (a::b::Q)).length=(a::b::Q).length:=ao ..;refine fW (b:=decide ((((List.map PV.d (a::b::Q)).length:Nat):Int)>400)) (decide_eq_false (jW.mpr (uL.mpr (by exact mK ja oG [.b (.a (.a jb aU) aU) ki,.f ja (.a (.a jb aU) aU)] rfl kl e)))) ?_
   refine dP (p:=(List.map PV.d (a::b::Q)).length<=1000) (by exact mK ja oR [.b (.a (.a jb aU) aU) ki,.f ja (.a (.a jb aU) aU)] rfl kl e) ?_
   refine Az ?_ hX K;show(((a::b::Q).map PV.d).all isInt&&true)=true;rw[aJ.mpr λv hv=>by obtain⟨x,J,rfl⟩:=bF.mp hv;rfl];rfl
 .rw[if_pos ht]at K
  exact K
theorem J2:Uz (.a (.j (ts.map .d))) d r rg ni ts (.a (ts.map .d)):=⟨rfl,ao ..,rfl⟩
theorem y8:Nt d X r ni lB:=⟨by decide,by decide,by decide,by decide,zA,zh⟩

noncomputable abbrev eD:PV:=.o [] []
noncomputable abbrev eL:PV:=.j []
noncomputable def Zt:ah:=.g 8 [(40,.e 1),(58,.d 0),(59,.d 200),(60,.d 40),(61,.h)]
def grI:ah:=.g 5 [(22,.e 7),(23,.e 8),(24,.e 9),(25,.e 10),(4,eD),(26,.e 11),(27,eD),(28,eD),(29,eL),(30,eD),(31,eD),(32,.d 0),(33,.d 0),(34,.d 0)]
noncomputable def dgI:ah:=.g 2 [(9,.e 14),(8,.k "")]
noncomputable def ntI:ah:=.g 3 [(9,.e 16)]
structure Cx where
 e:PV
 d:PV
 a:PV
 b:PV
 c:Int
def cxI(x:Cx):ah:=.g 18 [(40,.e 1),(38,.e 12),(65,.h),(45,x.a),(66,.h),(67,.e 13),(68,.e 15),(69,eD),(70,.e 18),(71,eD),(72,.e 19),(73,eD),(28,eD),(74,eD),(75,eD),(76,eD),(77,eD),(54,x.e),(57,.e 20),(55,x.d),(78,.e 21),(79,eL),(80,eL),(81,eD),(82,eD),(83,eD),(84,eD),(85,eD),(86,eD),(87,eD),(88,eD),(89,eD),(90,eD),(91,eD),(92,eD),(48,.e 22),(93,eD),(94,eD),(95,eD),(56,eD),(96,eD),(97,eD),(98,eD),(99,eD),(100,eD),(101,.d 0),(102,eD),(103,eD),(104,.h),(46,x.b),(49,.e 25),(105,.m 10 []),(106,.e 24),(107,.m 14 []),(108,.m 15 []),(109,.m 17 []),(110,.m 16 []),(58,.d x.c)]
noncomputable abbrev qY:S8:=[(.d 59,.m 19 []),(.d 52,.m 20 [])]
structure Fc where
 o:ah
 w:ah
 m:S3
 d:List (S3)
 l:S3
 n:S3
 e:S8
 b:S3
 c:S3
 x:Cx
 k:S8
 a:S8
 h:S3
 p:S3
 i:S8
 j:S8
 g:V6
def Fc.I(f:Fc):V6:=f.o::f.w::grI:: .a f.m:: .f f.d:: .a f.l:: .a f.n:: .e false f.e::Zt::dgI:: .a f.b::ntI:: .a f.c::cxI f.x:: .e false f.k:: .e false f.a:: .a f.h:: .a f.p:: .e false f.i:: .g 12 [(62,eD)]:: .g 11 [(62,eD)]:: .g 13 [(62,eD)]:: .e false f.j::f.g
variable{f:Fc}
theorem jI{a b:Prop}(h:[a]=[b]):a=b:=(fF h).1
theorem kO{A B:Prop}(e:[A]=[B])(b:B):A:=jI e▸b
theorem kM{α:Type}{L:List α}{A B:α->Prop}(e:L.map A=L.map B)(x:α)(h:x∈L)(b:B x):A x:=bV.mp e x h▸b
noncomputable abbrev dG:S1:=[-1,6,20,17,12,4,19,3]
noncomputable def z6(p h:Int):Int:=if p=14\/p=15 then(if h=12 then p-6 else 12)else if p=23 then(if h=17 then 16 else 7)else if p=25 then(if h=20\/h=19 then 18 else 6)else if p=26 then(if h=20\/h=19 then 20 else 6)else p
theorem qN{h:Int}(hp:p∈lB)(hh:h∈dG)(K:k (.d (z6 p h)) (S4 d X f.I rg ni)):av (n+9) 42 [.a (.e 17),.a (.d p),.a (.d h)] (S4 d X f.I rg ni) k:=by rw[cO];refine(fN (fN (f:=λp=>dG.map λh=>gI (n+9) 42 [.a (.e 17),.a (.d p),.a (.d h)] (S4 d X f.I rg ni) k) (g:=λp=>dG.map λh=>k (.d (z6 p h)) (S4 d X f.I rg ni)) (by kernel_rfl) hp) hh).mpr K

variable{D:S8}
theorem pN{k:Int}{e:PV×PV}(h:fB (.d k) e=true):e.1=.d k:=by
 obtain⟨a,v⟩:=e;unfold fB at h
 induction a using PV.casesOn<;>first|(cases h;done)|skip
 have:(some (_==k)==some true)=true:=h;rename_i j;have:j=k:=by
  have h2:(some (j==k)==some true)=true:=h;induction hjk:j==k
  .rw[hjk]at h2;exact ft h2
  .exact eq_of_beq hjk
 rw[this]
theorem Bv{k:Int}:fB (.d k) (.d k,v)=true:=by show(some (k==k)==some true)=true;rw[beq_self_eq_true];rfl
theorem jl{k:Int}{v:PV}:∀{D:S8},bA (.d k) (cY (.d k) v D)=some v
 |[]=>by unfold bA;show Option.map _ (List.find? _ [_])=_;rw[bK,Bv];rfl
 |e::D=>by
  have ih:=jl (k:=k) (v:=v) (D:=D);show bA _ (if fB (.d k) e=true then(e.1,v)::D else e::cY (.d k) v D)=_
  split
  .rename_i h;unfold bA;rw[bK,pN h,Bv];rfl
  .rename_i h;unfold bA at ih⊢
   rw[bK,dg.mpr h];exact ih
theorem kU{k j:Int}{v:PV}(sW:j≠k):∀{D:S8},bA (.d j) (cY (.d k) v D)=bA (.d j) D
 |[]=>by unfold bA;show Option.map _ (List.find? _ [_])=_;rw[bK,show fB (.d j) (.d k,v)=false by rw[dg];exactλh=>sW (PV.d.inj (pN h)).symm]
 |e::D=>by
  have ih:=kU sW (v:=v) (D:=D);show bA _ (if fB (.d k) e=true then(e.1,v)::D else e::cY (.d k) v D)=_
  split
  .rename_i h;have:∀w,fB (.d j) (e.1,w)=false:=λw=>by rw[dg];exactλh2=>sW (PV.d.inj ((pN h2).symm.trans (pN h)))
   unfold bA;rw[bK,bK,this,show fB (.d j) e=false from this e.2]
  .unfold bA at ih⊢
   rw[bK,bK];split
   .rfl
   .exact ih
theorem uT{k:PV}:∀{D:S8},(cY k v D).length<=D.length+1
 |[]=>aH _
 |e::D=>by
  show(if fB k e=true then(e.1,v)::D else e::cY k v D).length<=_
  split
  .exact bL _
  .exact cA uT
abbrev gh:PV:=.f (iG 16 0)
abbrev qA(X:S3)(t:Int)(row:S3):Prop:=kI (T1++X) t=some (.f row)
theorem JK{a c:Int}(htw:∀{k rg},k (.d (-1)) (S4 d X r rg ni)->av (n+1) 13 [.a (.e 1),.a (.d t)] (S4 d X r rg ni) k)(hr:qA X t (iG a c))(h1:Cw t= -1)(h2:Cu t= -1)(K:k (.g (GA G t)) (gS (TB d X r) G cs rg ni)):
  av (n+2) 15 [.a (.e 1),.b 0 0,.a (.d t)] (gS (TB d X r) G cs rg ni) k:=by
 unfold GA at K
 rw[h1,h2]at K
 refine in_w (htw ?_);show tb (Jb (-1) G) (ob (kI (T1++X) t) _) (k (.g false) (gS (TB d X r) G cs rg ni));rw[uQ,hr];refine BW (λh=>?_) λh=>by rw[decide_eq_true h]at K;exact K
 refine in_w ?_;show ob (Jb (-1) G) λb=>k (.g (!b)) (gS (TB d X r) G cs rg ni)
 rw[uQ];rw[decide_eq_false h]at K⊢
 exact K
theorem v4(h:dS (.f (iG 23 0)) X=none)(K:k (.d (-1)) (S4 d X r rg ni)):av (n+1) 13 [.a (.e 1),.a (.d 24)] (S4 d X r rg ni) k:=by
 rw[cO];have e:[gI (n+1) 13 [.a (.e 1),.a (.d 24)] (S4 d X r rg ni) k]=[k ((bA (.f (iG 23 0)) (wR 0 (T1++X))).getD (.d (-1))) (S4 d X r rg ni)]:=by kernel_rfl
 have e2:=jI e;have e3:dS (.f (iG 23 0)) (T1++X)=none:=by
  have app:∀{T:S3},dS (.f (iG 23 0)) T=none->dS (.f (iG 23 0)) (T++X)=none:=λ{T}=>by
   induction T with
   |nil=>exactλJ=>h
   |cons a T ih=>
    intro hT;simp only[dS,iM]at hT⊢
    split at hT
    .exact sn hT
    .rename_i hq;rw[if_neg hq,ih (mj.mp hT)];rfl
  exact app (by kernel_rfl)
 rw[e2,tY,e3];exact K
theorem twB{b:Int}(hb:qA X b (iG 16 0))(K:k (.d (-1)) (S4 d X r rg ni)):av (n+1) 13 [.a (.e 1),.a (.d b)] (S4 d X r rg ni) k:=in_w<|cG (o:=kI (T1++X) b) hb K
theorem ptB{b:Int}(hb:qA X b (iG 16 0))(h2:b≠2)(hp:rK b=[b])(K:k (.f ((rK b).map .d)) (S4 d X r rg ni)):av (n+1) 11 [.a (.e 1),.a (.d b)] (S4 d X r rg ni) k:=by
 rw[hp]at K
 exact in_w<|fW (b:=b==2) (beq_eq_false_iff_ne.mpr h2) (cG (o:=kI (T1++X) b) hb K)
theorem wE(K:k (.f ((rK 24).map .d)) (S4 d X r rg ni)):av (n+1) 11 [.a (.e 1),.a (.d 24)] (S4 d X r rg ni) k:=in_w K
theorem XC{b:Int}(h:27<=b):rK b=[b]/\Cw b= -1/\Cu b= -1/\nM b=b:=by unfold rK Cw Cu nM;refine⟨?_,?_,?_,?_⟩<;>repeat rw[if_neg (by first|exact I1 h rfl|(rintro (e|e)<;>exact I1 h rfl e)|(rintro (e|e|e|e)<;>exact I1 h rfl e))]
theorem ZY(h:dS (.f (iG 23 0)) X=none):Nt d X r ni (24::lB):=⟨by decide,by decide,by decide,by decide,λhp K=>(aF.mp hp).elim (λe=>by subst e;exact wE K) λhp=>zA hp K,λhp K=>(aF.mp hp).elim (λe=>by subst e;exact JK (v4 h) (a:=23) (c:=1) rfl rfl rfl K) λhp=>zh hp K⟩
theorem y7{b:Int}(hb:qA X b (iG 16 0))(CA:27<=b):Nt d X r ni (b::lB):=
 have B:=XC CA
 ⟨by show lB.length+1<60;decide,af _ (by decide),af _ (by decide),λt ht x hx=>by
  rcases aF.mp ht with rfl|ht
  .rw[B.1]at hx;exact aB.mp hx▸aj
  .exact af _ ((by decide:∀t∈lB,∀x∈rK t,x∈lB) t ht x hx),λhp K=>(aF.mp hp).elim (λe=>by subst e;exact ptB hb (by exact I1 CA rfl) B.1 K) λhp=>zA hp K,λhp K=>(aF.mp hp).elim (λe=>by subst e;exact JK (twB hb) hb B.2.1 B.2.2.1 K) λhp=>zh hp K⟩

variable{r0 r1 r2 r3:V6}
noncomputable abbrev j8:S1:=[3,4,5,6,7,8,9,14,15,20,23,25,26]
def Uc(p:Int)(D:S8):S8:=cY (.d p) (.d p) (cY (.d p) (.d p) D)
def dE(D:S8)(p:Int)(q:PV->S8->Prop):Prop:=tb (some (bA (.d p) D).isSome) (gb (decide (D.length<100000)) (gb (decide ((cY (.d p) (.d p) D).length<100000)) (ob (bA (.d p) (Uc p D)) λv=>q v (Uc p D)))) (ob (bA (.d p) D) λv=>q v D)
structure DI(D:S8)(m:Nat):Prop where
 b:∀p∈j8,bA (.d p) D=none\/bA (.d p) D=some (.d p)
 a:D.length<=m
theorem DI.I{v:Int}(h:DI D m)(hp:p∈j8->v=p):DI (cY (.d p) (.d v) D) (m+1):=
 ⟨λq hq=>by
  by_cases e:q=p
  .subst e;rw[jl,hp hq];exact .inr rfl
  .rw[kU e];exact h.b q hq,aA uT (cA h.a)⟩
theorem Sd{q:PV->S8->Prop}(hp:p∈j8)(h:DI D m)(hm:m<90000)(K:∀D',DI D' (m+2)->(∀j,j∉j8->bA (.d j) D'=bA (.d j) D)->q (.d p) D'):dE D p q:=by
 have ln:=h.a;rcases h.b p hp with e|e
 .refine fW (by rw[e];rfl) (dP (by exact fh ja aX [.b jb br,.a ja jb] rfl hm ln) (dP (bB uT (by exact fh (.a ja aU) aX [.b jb br,.a ja jb] rfl hm ln)) (cG jl ?_)))
  exact K _ ((h.I λJ=>rfl).I λJ=>rfl) λj hj=>by
   have:j≠p:=λe=>hj (e▸hp)
   unfold Uc;rw[kU this,kU this]
 .exact kL (by rw[e];rfl) (cG e (K _ ⟨h.b,dQ (dQ h.a)⟩ λJ J=>rfl))
theorem J4(hp:p∈j8)(h:DI D m)(hm:m<90000)(K:∀D',DI D' (m+2)->(∀j,j∉j8->bA (.d j) D'=bA (.d j) D)->k (.d p) (S4 d X r (r0::r1::(.e false D'::cs)::rg) ni)):
  av (n+2) 34 [.a (.e 1),.a (.d p),.b 2 0,.a (.d 1)] (S4 d X r (r0::r1::(.e false D::cs)::rg) ni) k:=by
 rw[cO];have e:j8.map (λp=>gI (n+2) 34 [.a (.e 1),.a (.d p),.b 2 0,.a (.d 1)] (S4 d X r (r0::r1::(.e false D::cs)::rg) ni) k)=j8.map λp=>dE D p λv D'=>k v (S4 d X r (r0::r1::(.e false D'::cs)::rg) ni):=by kernel_rfl
 have e2:=fN e hp;rw[e2];exact Sd hp h hm K
theorem VH(h:DI D m)(hm:m<90000)(K:∀D',DI D' (m+2)->(∀j,j∉j8->bA (.d j) D'=bA (.d j) D)->k (.d 23) (S4 d X r (r0::r1::r2::r3::(.e false D'::cs)::rg) ni)):
  av (n+2) 34 [.a (.e 1),.a (.d 23),.b 4 0,.a (.d 2)] (S4 d X r (r0::r1::r2::r3::(.e false D::cs)::rg) ni) k:=by
 rw[cO];have e:[gI (n+2) 34 [.a (.e 1),.a (.d 23),.b 4 0,.a (.d 2)] (S4 d X r (r0::r1::r2::r3::(.e false D::cs)::rg) ni) k]=[dE D 23 λv D'=>k v (S4 d X r (r0::r1::r2::r3::(.e false D'::cs)::rg) ni)]:=by kernel_rfl
 have e2:=jI e;rw[e2];exact Sd (by decide) h hm K
theorem wo(hp:p∈tH)(K:k (.d (nM p)) (S4 d X r rg ni)):av (n+3) 22 [.a (.e 1),.a (.d p)] (S4 d X r rg ni) k:=by rw[cO];revert p K;exact @kM _ _ _ _ (by kernel_rfl)
theorem Rm(h:DI D m)(hm:m<90000)(hX:X.length<900)(K:∀D',DI D' (m+2)->k (.d (cj X gh).1) (S4 d (cj X gh).2 r (r0::r1::r2::(.e false D'::cs)::rg) ni)):
  av (n+4) 35 [.a (.e 1),.a (.d 24),.a (.f (iG 23 1)),.b 3 0,.a (.d 2)] (S4 d X r (r0::r1::r2::(.e false D::cs)::rg) ni) k:=by
 refine in_w ?_;refine VH h hm λD' h1 J=>?_
 refine wo (p:=23) (by decide) ?_
 exact Az (row:=gh) rfl hX (K D' h1)
theorem bm(h:DI D m)(hb:bA (.d 24) D=none)(hm:m<80000)(hX:X.length<900)(K:∀D',DI D' (m+4)->k (.d (cj X gh).1) (S4 d (cj X gh).2 r (r0::r1::(.e false D'::cs)::rg) ni)):
  av (n+5) 34 [.a (.e 1),.a (.d 24),.b 2 0,.a (.d 1)] (S4 d X r (r0::r1::(.e false D::cs)::rg) ni) k:=by
 have ln:=h.a;refine in_w ?_;refine fW (b:=(bA (.d 24) D).isSome) (by rw[hb];rfl) ?_
 refine dP (p:=D.length<100000) (by exact fh ja aX [.b jb cC,.a ja jb] rfl hm ln) ?_
 have h1:=h.I (p:=24) (v:=24) λJ=>rfl
 refine Rm h1 (by exact fJ (.a ja aU) br [.b ja cC] rfl hm) hX λD' h2=>?_
 have l2:=h2.a;refine dP (p:=D'.length<100000) (by exact fh ja aX [.b jb cC,.a ja (.a (.a jb aU) iH)] rfl hm l2) ?_
 refine cG (o:=bA (.d 24) (cY (.d 24) (.d (cj X gh).1) D')) jl ?_;exact K _ (h2.I λh=>absurd h (by decide))

variable{X2:S3}{f b:Int}{K:S1}
noncomputable def iR(b p:Int):Int:=if p=24 then b else p
noncomputable abbrev oA(K:S1):S3:=[.d 6,.f (K.map .d)]
abbrev dT(cl:CL):EV:=tE cl 34 (bO (bx 0) (bO (bx 9) (bO (bx 3) (bO (bx 4) d9))))
abbrev dy(f:Int)(K:S1):dj:=[some (.a (.e 1)),some (.a (.d f)),some (.a (.f (oA K))),some (.b 2 0),some (.a (.d 1)),none,none,none,none,none]
def StL(d:ah)(X2:S3)(r cs:V6)(rg:V5)(ni:S1)(f b:Int)(K:S1)(n:Nat)(kk:S3->St->Prop)(l:S1):Prop:=∀{pre acc:S3}{D:S8}{m:Nat}{X:S3},(∀p∈l,p∈j8\/p=24)->l.Nodup->DI D m->(24∈l->bA (.d 24) D=none)->m+4*l.length<80000->X.length+l.length<900->
  (24∈l->cj X gh=(b,X2))->(24∉l->X=X2)->(∀D',D'.length<90000->kk (acc++(l.map (iR b)).map .d) (S4 d X2 r ([]::[]::(.e false D'::cs)::rg) ni))->
  compLoop (.inl 9) (.a (pre++l.map .d)) (bN (.g true)) (dT (av (n+5))) (dy f K) (l.length+1) pre.length acc (S4 d X r ([]::[]::(.e false D::cs)::rg) ni) kk
theorem Qi{kk:S3->St->Prop}(l:S1):StL d X2 r cs rg ni f b K n kk l:=by
 induction l with
 |nil=>
  intro pre acc D m X hl hn h pS hm hX e1 e2 go;have:=go D (by have:=h.a;exact fh ja br [.b (.a jb (.m 4 fU)) cC,.a ja jb] rfl hm this)
  rw[<-e2 (λh=>nomatch h),show acc++([].map (iR b)).map PV.d=acc from az _]at this
  exact cG rfl (w7 (by rw[show pre++[].map PV.d=pre from az _,List.getElem?_eq_none_iff];exact aH _) this)
 |cons p l ih=>
  intro pre acc D m X hl hn h pS hm hX e1 e2 go;rw[cD]at hn
  rw[iL]at hX hm
  have next:∀{D':S8}{X':S3}{q:Int},q=iR b p->DI D' (m+4)->(24∈l->bA (.d 24) D'=none)->X'.length+l.length<900->(24∈l->cj X' gh=(b,X2))->(24∉l->X'=X2)->
    compLoop (.inl 9) (.a (pre++(p::l).map .d)) (bN (.g true)) (dT (av (n+5))) (dy f K) (l.length+1) (pre.length+1) (acc++[.d q]) (S4 d X' r ([]::[]::(.e false D'::cs)::rg) ni) kk:=λ{D' X' q} hq h1 h2 h3 h4 h5=>by
   have:=ih (pre:=pre++[.d p]) (acc:=acc++[.d q]) (λp hp=>hl p (af _ hp)) hn.2 h1 h2 (by exact fh (.a (.a ja qz) (.m 4 jb)) cC [.b (.a ja (.m 4 (.a jb aU))) cC] rfl hm) h3 h4 h5 λD'=>by rw[aK,hq];exact go D'
   rw[aK,aa]at this
   exact this
  refine cG rfl (uh (a:=.d p) (by rw[dD];exact nE) ?_)
  rcases hl p aj with hp|rfl
  .have Tv:p≠24:=λe=>absurd hp (by rw[e];decide)
   have mem:24∈p::l↔24∈l:=⟨λh=>(aF.mp h).resolve_left (gE Tv),af _⟩
   refine J4 hp h (by exact fh ja br [.b (.a ja (.m 4 (.a jb aU))) cC] rfl hm) λD' h1 h2=>?_
   exact next (if_neg Tv).symm ⟨h1.b,aA h1.a (by exact kQ (.a ja iH) (.a ja qz) [] rfl)⟩ (λh=>(h2 24 (by decide)).trans (pS (mem.mpr h))) (by exact fh (.a ja jb) eH [.b (.a ja (.a jb aU)) eH] rfl hX) (λh=>e1 (mem.mpr h)) λh=>e2 λh'=>h (mem.mp h')
  .have E:=e1 aj;refine bm h (pS aj) (by exact fh ja cC [.b (.a ja (.m 4 (.a jb aU))) cC] rfl hm) (by exact fh ja eH [.b (.a ja (.a jb aU)) eH] rfl hX) λD' h1=>?_
   have l2:(cj X gh).2.length<=X.length+1:=by
    unfold cj;split
    .exact bL _
    .exact bZ aa
   rw[E]at l2⊢
   exact next (if_pos rfl).symm h1 (λh=>absurd h hn.1) (by change X2.length<=_ at l2;exact lS (.a ja jb) eH [.b (.a jc (.a jb aU)) eH,.a ja (.a jc aU)] rfl hX l2) (λh=>absurd h hn.1) λJ=>rfl
noncomputable def Od:aaf->Int
 |some (.f (.d c::_))=>c
 |_=>0
theorem yH(hf:qA X f (oA K))(hp:p∈24::tH):f≠p:=λe=>by
 have e1:(24::tH).map (λp=>Od (kI (T1++X) p))=(24::tH).map λp=>Od (kI T1 p):=by kernel_rfl
 have e2:=fN e1 hp;subst e;rw[show kI (T1++X) f=_ from hf]at e2
 exact(by decide+kernel:∀p∈24::tH,Od (kI T1 p)≠6) f hp e2.symm
theorem xQ(hf:qA X f (oA K))(hK:∀p∈K,p∈j8\/p=24)(hn:K.Nodup)(hX:X.length+K.length<900)(hl:K.length<100)(e1:24∈K->cj X gh=(b,X2))(e2:24∉K->X=X2)(Y0:X2.length<900)(Z:Nt d X2 r ni A)(hA:∀p∈K.map (iR b),p∈A)(go:k (.d (qu X2 (K.map (iR b))).1) (S4 d (qu X2 (K.map (iR b))).2 r rg ni)):av (n+8) 33 [.a (.e 1),.a (.d f)] (S4 d X r rg ni) k:=by
 refine in_w ?_;refine in_w ?_;refine cG (o:=kI (T1++X) f) hf ?_;refine in_w ?_;refine dP (p:=(K.map PV.d).length<=100000) (by rw[ao];exact kQ ja aX [.b ja uP] rfl hl) ?_
 have TL:∀p∈24::j8,p≠f:=λp hp e=>yH hf ((by decide:∀p∈24::j8,p∈24::tH) p hp) e.symm
 refine(?_ :∀q,q=K.length->compLoop (.inl 9) (.a (K.map .d)) (bN (.g true)) (dT (av (n+5))) (dy f K) (q+1) 0 [] (S4 d X r ([]::[]::[.e false [(.d f,.d f)]]::rg) ni) _) _ (ao ..);rintro q rfl;refine Qi K (pre:=[]) (cs:=[]) (m:=1) hK hn ⟨λp hp=>.inl ((kU (D:=[]) (TL p (af _ hp))).trans rfl),aH _⟩ (λJ=>(kU (D:=[]) (TL 24 aj)).trans rfl) (by exact fJ (.a aU (.m 4 ja)) cC [.s 4 (.b ja uP)] rfl hl) hX e1 e2 λD' hD=>?_
 refine zb Z Y0 J2 hA ?_;exact dP (p:=D'.length<100000) (by exact fJ ja aX [.b ja br] rfl hD) (cG (o:=bA (.d f) (cY (.d f) (.d (qu X2 (K.map (iR b))).1) D')) jl go)
theorem yV{α:Type}{loc:dj}{k:S3->St->Prop}{f g:α->PV}{vs:List α}(tZ:∀j,mw it j S=some (vs.map f)[j]?)(hm:m=vs.length)(K:k (vs.map g) S)(hb:∀v,v∈vs->∀q:S3->St->Prop,q [g v] S->eU tgt (.a (f v)) loc λloc=>cQ loc S λt s=>tb (dB s t) (q [] s) (gF loc s λy s=>pb y λy=>q [y] s)):compLoop tgt it cQ gF loc (m+1) 0 [] S k:=by
 refine zK (σ:=Unit) ⟨λJ=>S,λJ=>True⟩ (λJ J=>()) (λJ v=>[g v]) (λJ=>tZ) hm (x:=()) trivial (λJ=>?_) λJ v hv J=>⟨trivial,hb v hv⟩
 have:∀vs:List α,zR (λ(_:Unit) _=>()) (λJ v=>[g v]) () vs=vs.map g:=λvs=>by
  induction vs with
  |nil=>rfl
  |cons v r ih=>exact congrArg (g v:: ·) ih
 rw[this];exact K
theorem XW(hb:qA X b (iG 16 0))(CA:27<=b)(go:k (.d (nM b)) (S4 d X r rg ni)):av (n+2) 21 [.a (.e 1),.a (.d b)] (S4 d X r rg ni) k:=by
 rw[(XC CA).2.2.2]at go
 exact in_w<|in_w<|cG (o:=kI (T1++X) b) hb go
theorem xT(hf:qA X f (oA K))(hR:∀p∈K,∀{rg:V5}{k:KP},k (.d (nM p)) (S4 d X r rg ni)->av (n+3) 21 [.a (.e 1),.a (.d p)] (S4 d X r rg ni) k)(hX:X.length<900)(hl:K.length<100)(Z:Nt d X r ni A)(hA:∀p∈K.map nM,p∈A)(go:k (.d (qu X (K.map nM)).1) (S4 d (qu X (K.map nM)).2 r rg ni)):av (n+4) 22 [.a (.e 1),.a (.d f)] (S4 d X r rg ni) k:=by
 refine in_w ?_;refine in_w ?_;refine cG (o:=kI (T1++X) f) hf ?_;refine in_w ?_;refine fW (b:=f==2) (beq_eq_false_iff_ne.mpr (yH hf (by decide))) (cG (o:=kI (T1++X) f) hf ?_)
 refine dP (p:=(K.map PV.d).length<=100000) (by rw[ao];exact kQ ja aX [.b ja uP] rfl hl) ?_
 refine yV (f:=PV.d) (g:=λp=>PV.d (nM p)) (vs:=K) (S:=S4 d X r ([]::rg) ni) (λJ=>rfl) (ao ..) ?_ λp hp q hq=>hR p hp hq
 rw[show(K.map λp=>PV.d (nM p))=(K.map nM).map .d from(eX ..).symm]
 exact zb Z hX J2 hA go

variable{f:Fc}
noncomputable abbrev SK:S1:=[25,20,23,4,6,15,5,26,7,14,3,0,2,1,12]
noncomputable abbrev cK:S1:=[3,21,4,0,2,7,6,19,1,22,12,13]
noncomputable def xL(v:Int):Nat:=if v=25 then 4 else if v=20\/v=26 then 8 else if v=23 then 32 else if v=4 then 1 else if v=6 then 28 else if v=15 then 256 else if v=5 then 2 else if v=7 then 96 else if v=14 then 128 else if v=3 then 512 else if v=2 then 0 else if v=24 then 1024 else if v=12 then 384 else 4095
noncomputable def NH(w:Int):Nat:=if w=3 then 513 else if w=21 then 29 else if w=4 then 1 else if w=2 then 0 else if w=7 then 96 else if w=6 then 28 else if w=19 then 100 else if w=22 then 541 else if w=12 then 384 else 4095
def rL(v w:Int):Bool:=w==0||w==1||w==13||(if v=0 then w != 2 else Nat.lor (xL v) (NH w)==NH w)
noncomputable def z5(v w:Int):Bool:=v==0&& !(w==0||w==1||w==13)
def Ur(n:Nat)(d:ah)(X:S3)(f:Fc)(rg:V5)(ni:S1)(num at_ v w:Int)(k:KP):Prop:=
 if rL v w then(if z5 v w then gb (decide (f.c.length<100000)) (k (.g true) (S4 d X {f with c:=f.c++[PV.f [.d 1,.d at_]]}.I rg ni))else k (.g true) (S4 d X f.I rg ni))
 else gI (n+5) 65 [.a (.e 17),.a (.d num),.a (.d at_),.a (.f [.k (Str.ofString (toString v)),.k (Str.ofString (toString w))])] (S4 d X f.I ([]::[]::rg) ni) (λJ s=>k (.g false) (s.I λr=>r.tail.tail))
theorem ba{num v w:Int}(hv:v∈SK)(hw:w∈cK)(K:Ur n d X f rg ni num at_ v w k):av (n+7) 69 [.a (.e 17),.a nd,.a (.d v),.a (.d w),.a (.d at_),.a (.d num)] (S4 d X f.I rg ni) k:=by rw[cO];refine(fN (fN (f:=λv=>cK.map λw=>gI (n+7) 69 [.a (.e 17),.a nd,.a (.d v),.a (.d w),.a (.d at_),.a (.d num)] (S4 d X f.I rg ni) k) (g:=λv=>cK.map λw=>Ur n d X f rg ni num at_ v w k) (by kernel_rfl) hv) hw).mpr K

noncomputable abbrev UA:S1:=[3,4,5,6,7,8,9,14,15,16,18,20,23,24,25,26]
abbrev UM:S1:= -1::UA
noncomputable def jB(q:Int->Bool)(y:Int):Bool:=q y||((decide (y=8)||decide (y=9))&&((q 8||q 14)&&(q 9||q 15)))
def qv(q:Int->Bool)(y:Int):Bool:=jB q y&&(!jB q (Cw y)&& !jB q (Cu y))
def N7(q:Int->Bool)(y:Int):Bool:=UA.any λx=>decide (nM x=y)&&q x
structure oO(b:Int)(L:S1)(q:Int->Bool):Prop where
 c:∀x∈UM,decide (iR b x∈L)=q x
 a:∀y∈L,∃x∈UA,y=iR b x
variable{L:S1}{q:Int->Bool}
abbrev GK(b:Int):Prop:=b=24\/27<=b
theorem iu(h:x≠24):iR b x=x:=if_neg h
theorem zg(hb:GK b)(hx:x∈UM)(hy:y∈UM)(e:iR b x=iR b y):x=y:=by
 have lt:∀{z},z∈UM->z<27:=λh=>(by decide:∀z∈UM,z<27) _ h
 unfold iR at e
 split at e<;>split at e<;>rename_i h h2
 .exact h.trans h2.symm
 .exact(hb.elim (λz=>h2 (e.symm.trans z)) λz=>jW.mpr z (e▸lt hy)).elim
 .exact(hb.elim (λz=>h (e.trans z)) λz=>jW.mpr z (e▸lt hx)).elim
 .exact e
theorem Ay(hb:GK b)(hx:x∈UM):Cw (iR b x)=Cw x/\Cu (iR b x)=Cu x/\nM (iR b x)=iR b (nM x)/\Cw x∈UM/\Cu x∈UM/\nM x∈UM/\(x≠ -1->nM x∈UA)/\Cw x≠24/\Cu x≠24/\((iR b x=8↔x=8)/\(iR b x=9↔x=9)):=by
 have F:=(by decide:∀x∈UM,Cw x∈UM/\Cu x∈UM/\nM x∈UM/\(x≠ -1->nM x∈UA)/\Cw x≠24/\Cu x≠24/\(x≠24->nM x≠24)) x hx
 by_cases e:x=24
 .subst e;rw[show iR b 24=b from if_pos rfl]
  rcases hb with rfl|hb
  .exact⟨rfl,rfl,rfl,F.1,F.2.1,F.2.2.1,F.2.2.2.1,F.2.2.2.2.1,F.2.2.2.2.2.1,xP,xP⟩
  .have B:=XC hb;exact⟨B.2.1,B.2.2.1,B.2.2.2.trans (if_pos rfl).symm,F.1,F.2.1,F.2.2.1,F.2.2.2.1,F.2.2.2.2.1,F.2.2.2.2.2.1,⟨λh=>absurd h (I1 hb rfl),λh=>by contradiction⟩,⟨λh=>absurd h (I1 hb rfl),λh=>by contradiction⟩⟩
 .rw[iu e,iu (F.2.2.2.2.2.2 e)];exact⟨rfl,rfl,rfl,F.1,F.2.1,F.2.2.1,F.2.2.2.1,F.2.2.2.2.1,F.2.2.2.2.2.1,xP,xP⟩
theorem Bp:y∈lC G↔y∈G\/((y=8\/y=9)/\((8∈G\/14∈G)/\(9∈G\/15∈G))):=by
 unfold lC;split
 .rename_i h;rw[pn,pn,or_assoc];exact or_congr xP ⟨λh2=>⟨h2,h⟩,And.left⟩
 .rename_i h;exact⟨.inl,λh2=>h2.elim (λh=>h) λh2=>absurd h2.2 h⟩
theorem oO.I(R:oO b L q)(hx:x∈UM):iR b x∈L↔q x=true:=by rw[<-R.c x hx,decide_eq_true_iff]
theorem oO.c'(hb:GK b)(R:oO b G q)(hx:x∈UM):decide (iR b x∈lC G)=jB q x:=by
 have m:∀{z},z∈UM->z≠24->(z∈G↔q z=true):=λh1 h2=>by rw[<-R.I h1,iu h2]
 have F:=Ay hb hx;unfold jB;rw[gW,decide_eq_true_iff,Bp,R.I hx,F.2.2.2.2.2.2.2.2.2.1,F.2.2.2.2.2.2.2.2.2.2,m (z:=8) (by decide) (by decide),m (z:=14) (by decide) (by decide),m (z:=9) (by decide) (by decide),m (z:=15) (by decide) (by decide)]
 simp only[Bool.or_eq_true,bg,decide_eq_true_eq]
theorem oO.V(hb:GK b)(R:oO b G q):oO b (qH (lC G)) (qv q):=by
 refine⟨λx hx=>?_,λy hy=>?_⟩
 .have F:=Ay hb hx;have e1:=R.c' hb hx;have e2:=R.c' hb F.2.2.2.1;have e3:=R.c' hb F.2.2.2.2.1;rw[iu F.2.2.2.2.2.2.2.1]at e2
  rw[iu F.2.2.2.2.2.2.2.2.1]at e3
  unfold qv;rw[<-e1,<-e2,<-e3,gW,decide_eq_true_iff];unfold qH;rw[cR,pZ];unfold GA;rw[F.1,F.2.1];simp only[bg,decide_eq_true_eq]
 .unfold qH at hy
  rw[cR,pZ,Bp]at hy
  rcases hy.1 with h|⟨rfl|rfl,J⟩
  .exact R.a y h
  .exact⟨8,by decide,rfl⟩
  .exact⟨9,by decide,rfl⟩
theorem oO.O(hb:GK b)(R:oO b L q):oO b (mP L []) q:=by
 have p:∀t∈L,rK t=[t]:=λt ht=>by
  obtain⟨x,hx,rfl⟩:=R.a t ht;by_cases e:x=24
  .subst e;rw[show iR b 24=b from if_pos rfl]
   rcases hb with rfl|hb
   .rfl
   .exact(XC hb).1
  .rw[iu e];exact(by decide:∀x∈UA,rK x=[x]) x hx
 have m:∀y,y∈mP L []↔y∈L:=λy=>by rw[pL];exact⟨λh=>h.elim (λh=>nomatch h) λ⟨t,h1,h2⟩=>by rw[p t h1]at h2;exact aB.mp h2▸h1,λh=>.inr ⟨y,h,by rw[p y h];exact aj⟩⟩
 exact⟨λx hx=>by rw[<-R.c x hx];exact decide_eq_decide.mpr (m _),λy hy=>R.a y ((m y).mp hy)⟩
theorem oO.d'(hb:GK b)(R:oO 24 L q):oO b (L.map (iR b)) q:=by
 have sG:∀x,au.iR 24 x=x:=λx=>by unfold au.iR;split<;>simp_all
 refine⟨λx hx=>?_,λy hy=>?_⟩
 .rw[<-R.c x hx,sG];refine decide_eq_decide.mpr ⟨λh=>?_,λh=>oY h⟩
  obtain⟨z,h1,h2⟩:=bF.mp h;obtain⟨w,h3,h4⟩:=R.a z h1;rw[sG]at h4
  subst h4;exact zg hb (af _ h3) hx h2▸h1
 .obtain⟨z,h1,rfl⟩:=bF.mp hy;obtain⟨w,h3,h4⟩:=R.a z h1;exact⟨w,h3,by rw[h4,sG]⟩
theorem oO.e'(hb:GK b)(R:oO b L q):oO b (L.map nM) (N7 q):=by
 refine⟨λx hx=>?_,λy hy=>?_⟩
 .unfold N7;rw[gW,decide_eq_true_iff,cI,bF];constructor
  .rintro ⟨z,h1,h2⟩;obtain⟨w,h3,rfl⟩:=R.a z h1;have hw:=af (-1) h3;have F:=Ay hb hw;rw[F.2.2.1]at h2
   exact⟨w,h3,by rw[bg,decide_eq_true_iff];exact⟨zg hb F.2.2.2.2.2.1 hx h2,(R.I hw).mp h1⟩⟩
  .rintro ⟨w,h3,h4⟩;rw[bg,decide_eq_true_iff]at h4
   have hw:=af (-1) h3;exact⟨_,(R.I hw).mpr h4.2,by rw[(Ay hb hw).2.2.1,h4.1]⟩
 .obtain⟨z,h1,rfl⟩:=bF.mp hy;obtain⟨w,h3,rfl⟩:=R.a z h1;have F:=Ay hb (af (-1) h3);exact⟨nM w,F.2.2.2.2.2.2.1 (by rintro rfl;exact absurd h3 (by decide)),F.2.2.1⟩

section
noncomputable abbrev jy:S1:=[25,20,23,4,6,15,5,26,7,14,3,2,24,12]
noncomputable abbrev rV:S1:=[6,20,25,26,7,23,12,14,15,3,4,5,24]
noncomputable def sV(x:Int):Int:=if x=8\/x=9 then 12 else x
def vf(l:aag)(y:Int):Bool:=((rV.zip l).lookup y).getD false
def gB(v:Int->Bool)(y:Int):Bool:=v (sV y)
def vT(T:S1):aag:=rV.map λy=>decide (y∈T)
theorem Br{g:Int->Bool}{y:Int}:∀N:S1,(((N.zip (N.map g)).lookup y).getD false)=(decide (y∈N)&&g y)
 |[]=>rfl
 |a::N=>by
  have ih:=Br (g:=g) (y:=y) N;rw[dD,List.zip_cons_cons,dJ];by_cases h:y=a
  .subst h;rw[beq_self_eq_true,decide_eq_true aj];rfl
  .rw[beq_eq_false_iff_ne.mpr h,show decide (y∈a::N)=decide (y∈N)from decide_eq_decide.mpr ⟨λh2=>(aF.mp h2).resolve_left h,af _⟩];exact ih
theorem xE{T:S1}(y:Int):vf (vT T) y=(decide (y∈rV)&&decide (y∈T)):=Br rV
theorem Gk{T:S1}(hT:∀t∈T,t∈jy):oO 24 (mP T []) (gB (vf (vT T))):=by
 have sG:∀x,iR 24 x=x:=λx=>by unfold iR;split<;>simp_all
 have m:∀x,x∈UM->(x∈mP T []↔sV x∈T):=λx hx=>by
  rw[pL];have F:∀t∈T,(x∈rK t↔sV x=t):=λt ht=>(by decide:∀x∈UM,∀t∈jy,(x∈rK t↔sV x=t)) x hx t (hT t ht)
  exact⟨λh=>h.elim (λh=>nomatch h) λ⟨t,h1,h2⟩=>(F t h1).mp h2▸h1,λh=>.inr ⟨_,h,(F _ h).mpr rfl⟩⟩
 refine⟨λx hx=>?_,λy hy=>?_⟩
 .rw[sG,gB,xE,decide_eq_decide.mpr (m x hx),gW,bg,decide_eq_true_iff,decide_eq_true_iff];exact⟨λh=>⟨(by decide:∀x∈UM,sV x∈jy->sV x∈rV) x hx (hT _ h),h⟩,And.right⟩
 .rcases pL.mp hy with h|⟨t,h1,h2⟩
  .exact nomatch h
  .exact⟨y,(by decide:∀t∈jy,∀y∈rK t,y∈UA) t (hT t h1) y h2,(sG y).symm⟩
noncomputable def fu(v:Int->Bool)(x:Int):Bool:=
 let t:=v 12||(v 14&&v 15)
 if x=8\/x=9 then t else if x=14 then v 14&& !t else if x=15 then v 15&& !t else if x=20\/x=25 then v x&& !v 6 else if x=26 then v 26&&(!v 20&& !v 6)else if x=23 then v 23&& !v 7 else if x=12 then false else v x
noncomputable def DO(v:Int->Bool)(x:Int):Bool:=if x=8 then v 12||v 14 else if x=9 then v 12||v 15 else if x=16 then v 23&& !v 7 else if x=18 then v 25&& !v 6 else if x=20 then(v 20||v 26)&& !v 6 else if x=14\/x=15\/x=23\/x=25\/x=26 then false else v x
noncomputable abbrev UK:S1:=[6,20,25,26,7,23,8,9,14,15,3,4,5,24]
noncomputable abbrev NF:S1:=[6,18,20,25,26,7,16,23,8,9,14,15,3,4,5,24]
def NU(v:Int->Bool):Int->Bool:=qv (N7 (qv (qv (gB v))))
noncomputable abbrev B2:aag:=[false,true]
theorem fY{α:Type}{f g:Bool->α}(h:B2.map f=B2.map g)(x:Bool):f x=g x:=bV.mp h x (by induction x<;>decide)
noncomputable def mN(v:Int):Nat:=if v=25 then 4 else if v=20\/v=26 then 8 else if v=23 then 32 else if v=4 then 1 else if v=6 then 28 else if v=15 then 256 else if v=5 then 2 else if v=7 then 96 else if v=14 then 128 else if v=3 then 512 else if v=24 then 1024 else if v=12 then 384 else 0
noncomputable def sN(y:Int):Nat:=if y=24 then 1024 else if y=6 then 28 else if y=18 then 4 else if y=20 then 8 else if y=7 then 96 else if y=16 then 32 else if y=9 then 256 else if y=8 then 128 else if y=4 then 1 else if y=5 then 2 else if y=3 then 512 else if y=2 then 0 else 8192
noncomputable def mJ(m:Int->Nat)(v:Int->Bool):S1->Nat
 |[]=>0
 |y::N=>(if v y then m y else 0)|||mJ m v N
theorem ic{m:Int->Nat}{v:Int->Bool}{M:S1}:∀N:S1,mJ m v (N++M)=mJ m v N|||mJ m v M
 |[]=>(Nat.zero_or _).symm
 |y::N=>by show _|||mJ m v (N++M)=_;rw[ic N,<-Nat.or_assoc];rfl
noncomputable def k7(v:Int->Bool):Bool:=[20,6,7,12,3,4,5,24].any v
noncomputable def vo(t:Nat):Nat:=if t=4\/t=8 then 28 else if t=32 then 96 else if t=128\/t=256 then 384 else t
def TV(t w:Nat)(pl:Bool):Nat:=if !pl&&t&&&w=0 then vo t else t
def oF(v:Int->Bool)(w:Nat):Nat:=TV (mJ mN v rV) w (k7 v)
noncomputable def fR(h:Int):Nat:=if h=20\/h=19 then 28 else if h=17 then 96 else if h=12 then 384 else 0
def Eu(k:Int):Nat:=if k=12 then 384 else sN k
section
variable (a6 ue rP rO a7 rQ uf rT rR a3 a4 a5 uc:Bool)
abbrev vv:Int->Bool:=vf [a6,ue,rP,rO,a7,rQ,uf,rT,rR,a3,a4,a5,uc]
abbrev AY(N K F P Q:S1)(v:Int->Bool):aag×aag×aag×Nat×Nat×Bool:=(F.map (qv (gB v)),F.map (qv (qv (gB v))),F.map (NU v),mJ mN v N,mJ sN (DO v) F,P.any v&& !Q.any (fu v))
abbrev AX(N K F:S1)(v:Int->Bool):aag×aag×aag×Nat×Nat×Bool:=(F.map (fu v),F.map (fu v),F.map (DO v),mJ (λy=>sN (nM y)) (fu v) K,mJ mN v N,false)
theorem Db:AY [6,20,25,26] [6,20,25,26] [6,18,20,25,26] [20,6] [6,20] (vv a6 ue rP rO a7 rQ uf rT rR a3 a4 a5 uc)=AX [6,20,25,26] [6,20,25,26] [6,18,20,25,26] (vv a6 ue rP rO a7 rQ uf rT rR a3 a4 a5 uc):=
 have e:(B2.map λa6=>B2.map λue=>B2.map λrP=>B2.map λrO=>AY [6,20,25,26] [6,20,25,26] [6,18,20,25,26] [20,6] [6,20] (vv a6 ue rP rO a7 rQ uf rT rR a3 a4 a5 uc))=B2.map λa6=>B2.map λue=>B2.map λrP=>B2.map λrO=>AX [6,20,25,26] [6,20,25,26] [6,18,20,25,26] (vv a6 ue rP rO a7 rQ uf rT rR a3 a4 a5 uc):=by kernel_rfl
 fY (fY (fY (fY e a6) ue) rP) rO
theorem Dx:AY [7,23] [7,23] [7,16,23] [7] [7] (vv a6 ue rP rO a7 rQ uf rT rR a3 a4 a5 uc)=AX [7,23] [7,23] [7,16,23] (vv a6 ue rP rO a7 rQ uf rT rR a3 a4 a5 uc):=
 have e:(B2.map λa7=>B2.map λrQ=>AY [7,23] [7,23] [7,16,23] [7] [7] (vv a6 ue rP rO a7 rQ uf rT rR a3 a4 a5 uc))=B2.map λa7=>B2.map λrQ=>AX [7,23] [7,23] [7,16,23] (vv a6 ue rP rO a7 rQ uf rT rR a3 a4 a5 uc):=by kernel_rfl
 fY (fY e a7) rQ
theorem DD:AY [12,14,15] [8,9,14,15] [8,9,14,15] [12] [8] (vv a6 ue rP rO a7 rQ uf rT rR a3 a4 a5 uc)=AX [12,14,15] [8,9,14,15] [8,9,14,15] (vv a6 ue rP rO a7 rQ uf rT rR a3 a4 a5 uc):=
 have e:(B2.map λuf=>B2.map λrT=>B2.map λrR=>AY [12,14,15] [8,9,14,15] [8,9,14,15] [12] [8] (vv a6 ue rP rO a7 rQ uf rT rR a3 a4 a5 uc))=B2.map λuf=>B2.map λrT=>B2.map λrR=>AX [12,14,15] [8,9,14,15] [8,9,14,15] (vv a6 ue rP rO a7 rQ uf rT rR a3 a4 a5 uc):=by kernel_rfl
 fY (fY (fY e uf) rT) rR
theorem Do:AY [3,4,5,24] [3,4,5,24] [3,4,5,24] [3,4,5,24] [3,4,5,24] (vv a6 ue rP rO a7 rQ uf rT rR a3 a4 a5 uc)=AX [3,4,5,24] [3,4,5,24] [3,4,5,24] (vv a6 ue rP rO a7 rQ uf rT rR a3 a4 a5 uc):=
 have e:(B2.map λa3=>B2.map λa4=>B2.map λa5=>B2.map λuc=>AY [3,4,5,24] [3,4,5,24] [3,4,5,24] [3,4,5,24] [3,4,5,24] (vv a6 ue rP rO a7 rQ uf rT rR a3 a4 a5 uc))=B2.map λa3=>B2.map λa4=>B2.map λa5=>B2.map λuc=>AX [3,4,5,24] [3,4,5,24] [3,4,5,24] (vv a6 ue rP rO a7 rQ uf rT rR a3 a4 a5 uc):=by kernel_rfl
 fY (fY (fY (fY e a3) a4) a5) uc
end
end

variable{T:S1}
abbrev iW(T:S1):Int->Bool:=vf (vT T)
structure IT(v:Int->Bool):Prop where
 a:NF.map (qv (gB v))=NF.map (fu v)
 e:NF.map (qv (qv (gB v)))=NF.map (fu v)
 c:NF.map (NU v)=NF.map (DO v)
 b:mJ mN v rV=mJ (λy=>sN (nM y)) (fu v) UK
 d:mJ mN v rV=mJ sN (DO v) NF
 p:k7 v=true->[6,20,7,8,3,4,5,24].any (fu v)=true
theorem Uq(T:S1):IT (iW T):=by
 have s:=Db (decide (6∈T)) (decide (20∈T)) (decide (25∈T)) (decide (26∈T)) (decide (7∈T)) (decide (23∈T)) (decide (12∈T)) (decide (14∈T)) (decide (15∈T)) (decide (3∈T)) (decide (4∈T)) (decide (5∈T)) (decide (24∈T));have n:=Dx (decide (6∈T)) (decide (20∈T)) (decide (25∈T)) (decide (26∈T)) (decide (7∈T)) (decide (23∈T)) (decide (12∈T)) (decide (14∈T)) (decide (15∈T)) (decide (3∈T)) (decide (4∈T)) (decide (5∈T)) (decide (24∈T));have b:=DD (decide (6∈T)) (decide (20∈T)) (decide (25∈T)) (decide (26∈T)) (decide (7∈T)) (decide (23∈T)) (decide (12∈T)) (decide (14∈T)) (decide (15∈T)) (decide (3∈T)) (decide (4∈T)) (decide (5∈T)) (decide (24∈T));have o:=Do (decide (6∈T)) (decide (20∈T)) (decide (25∈T)) (decide (26∈T)) (decide (7∈T)) (decide (23∈T)) (decide (12∈T)) (decide (14∈T)) (decide (15∈T)) (decide (3∈T)) (decide (4∈T)) (decide (5∈T)) (decide (24∈T));have go:∀v:Int->Bool,AY [6,20,25,26] [6,20,25,26] [6,18,20,25,26] [20,6] [6,20] v=AX [6,20,25,26] [6,20,25,26] [6,18,20,25,26] v->AY [7,23] [7,23] [7,16,23] [7] [7] v=AX [7,23] [7,23] [7,16,23] v->AY [12,14,15] [8,9,14,15] [8,9,14,15] [12] [8] v=AX [12,14,15] [8,9,14,15] [8,9,14,15] v->AY [3,4,5,24] [3,4,5,24] [3,4,5,24] [3,4,5,24] [3,4,5,24] v=AX [3,4,5,24] [3,4,5,24] [3,4,5,24] v->IT v:=λv s n b o=>by
  simp only[AY,AX,Ak]at s n b o
  obtain⟨s1,s2,s3,s4,s5,s6⟩:=s;obtain⟨n1,n2,n3,n4,n5,n6⟩:=n;obtain⟨b1,b2,b3,b4,b5,b6⟩:=b;obtain⟨o1,o2,o3,o4,o5,o6⟩:=o;refine⟨?_,?_,?_,?_,?_,λh=>?_⟩
  .rw[show NF=[6,18,20,25,26]++([7,16,23]++([8,9,14,15]++[3,4,5,24]))from rfl]
   simp only[aD,s1,n1,b1,o1]
  .rw[show NF=[6,18,20,25,26]++([7,16,23]++([8,9,14,15]++[3,4,5,24]))from rfl]
   simp only[aD,s2,n2,b2,o2]
  .rw[show NF=[6,18,20,25,26]++([7,16,23]++([8,9,14,15]++[3,4,5,24]))from rfl]
   simp only[aD,s3,n3,b3,o3]
  .rw[show rV=[6,20,25,26]++([7,23]++([12,14,15]++[3,4,5,24]))from rfl,show UK=[6,20,25,26]++([7,23]++([8,9,14,15]++[3,4,5,24]))from rfl,ic,ic,ic,ic,ic,ic,s4,n4,b4,o4]
  .rw[show rV=[6,20,25,26]++([7,23]++([12,14,15]++[3,4,5,24]))from rfl,show NF=[6,18,20,25,26]++([7,16,23]++([8,9,14,15]++[3,4,5,24]))from rfl,ic,ic,ic,ic,ic,ic,s5,n5,b5,o5]
  .unfold k7 at h
   rw[show[20,6,7,12,3,4,5,24]=[(20:Int),6]++([7]++([12]++[3,4,5,24]))from rfl,gV,gV,gV]at h
   rw[show[6,20,7,8,3,4,5,24]=[(6:Int),20]++([7]++([8]++[3,4,5,24]))from rfl,gV,gV,gV]
   exact(by decide:∀a b c d e f g h:Bool,(a&& !b)=false->(c&& !d)=false->(e&& !f)=false->(g&& !h)=false->(a||(c||(e||g)))=true->(b||(d||(f||h)))=true) _ _ _ _ _ _ _ _ s6 n6 b6 o6 h
 exact go _ s n b o
noncomputable def lf:aag->aag
 |[rP,rO,rQ,rT,rR]=>[false,false,rP,rO,false,rQ,false,rT,rR,false,false,false,false]
 |_=>[]
def Uw(l:aag):Bool:=match NF.filter (fu (vf (lf l)))with
 |[]=>true
 |[k]=>dG.all λh=>oF (vf (lf l)) (fR h)==Eu (z6 k h)
 |_=>dG.all λh=>oF (vf (lf l)) (fR h)==mJ mN (vf (lf l)) rV
theorem MD(a b c d e:Bool):Uw [a,b,c,d,e]=true:=
 have h:(B2.map λa=>B2.map λb=>B2.map λc=>B2.map λd=>B2.map λe=>Uw [a,b,c,d,e])=B2.map λJ=>B2.map λJ=>B2.map λJ=>B2.map λJ=>B2.map λJ=>true:=by kernel_rfl
 fY (fY (fY (fY (fY h a) b) c) d) e
structure UB(v:Int->Bool):Prop where
 c:NF.filter (fu v)=[]->mJ mN v rV=0
 b:∀k,NF.filter (fu v)=[k]->∀h∈dG,oF v (fR h)=if k=24 then 1024 else Eu (z6 k h)
 a:2<=(NF.filter (fu v)).length->∀h∈dG,oF v (fR h)=mJ mN v rV
theorem Bh{m:Int->Nat}{v:Int->Bool}:∀{N:S1},(∀x∈N,v x=false)->mJ m v N=0
 |[],_=>rfl
 |x::N,h=>by
  show(if v x=true then m x else 0)|||mJ m v N=0
  rw[h x aj,if_neg aO,Bh λy hy=>h y (af _ hy)];rfl
theorem tR{m:Int->Nat}{v u:Int->Bool}:∀{N:S1},(∀x∈N,v x=u x)->mJ m v N=mJ m u N
 |[],_=>rfl
 |x::N,h=>by
  show(if v x=true then m x else 0)|||mJ m v N=(if u x=true then m x else 0)|||mJ m u N
  rw[h x aj,tR λy hy=>h y (af _ hy)]
theorem Bu(F:IT (iW T))(h:NF.filter (fu (iW T))=[]):mJ mN (iW T) rV=0:=by
 rw[F.b];refine Bh λx hx=>?_
 induction e:fu (iW T) x
 .rfl
 .have:x∈NF.filter (fu (iW T)):=cR.mpr ⟨(by decide:∀x∈UK,x∈NF) x hx,e⟩
  rw[h]at this;exact nomatch this
theorem HS(F:IT (iW T))(hp:k7 (iW T)=true):UB (iW T):=by
 have lm:∀w,oF (iW T) w=mJ mN (iW T) rV:=λw=>by unfold oF;rw[hp];rfl
 refine⟨Bu F,λk h w hw=>?_,λJ w J=>lm _⟩
 .have hk:∀x∈NF,fu (iW T) x=decide (x=k):=λx hx=>by
   rw[gW,decide_eq_true_iff];have m:x∈NF.filter (fu (iW T))↔x=k:=by rw[h];exact aB
   rw[<-m,cR];exact⟨λe=>⟨hx,e⟩,And.right⟩
  have k1:k∈NF:=(cR.mp (show k∈NF.filter (fu (iW T))by rw[h];exact aj)).1
  obtain⟨x,hx,e⟩:=cI.mp (F.p hp);rw[hk x ((by decide:∀x∈[6,20,7,8,3,4,5,24],x∈NF) x hx),decide_eq_true_iff]at e
  subst e;have n8:x≠8:=λe=>by
   subst e;have a:=hk 8 (by decide)
   have b:=hk 9 (by decide)
   rw[show fu (iW T) 9=fu (iW T) 8 from rfl,a]at b
   exact tf b
  rw[lm,F.b,tR (u:=λy=>decide (y=x)) λy hy=>hk y ((by decide:∀x∈UK,x∈NF) y hy)]
  exact(by decide:∀x∈[6,20,7,8,3,4,5,24],x≠8->∀w∈dG,mJ (λy=>sN (nM y)) (λy=>decide (y=x)) UK=if x=24 then 1024 else Eu (z6 x w)) x hx n8 w hw
theorem HT(F:IT (iW T))(hp:k7 (iW T)=false):UB (iW T):=by
 unfold k7 at hp
 rw[List.any_eq_false]at hp
 have z:∀x∈[20,6,7,12,3,4,5,24],decide (x∈T)=false:=λx hx=>by
  have:=hp x hx;rw[show iW T x=_ from xE x,decide_eq_true ((by decide:∀x∈[20,6,7,12,3,4,5,24],x∈rV) x hx),sd]at this
  exact dg.mpr this
 have e:vT T=lf [decide (25∈T),decide (26∈T),decide (23∈T),decide (14∈T),decide (15∈T)]:=by show[decide (6∈T),decide (20∈T),decide (25∈T),decide (26∈T),decide (7∈T),decide (23∈T),decide (12∈T),decide (14∈T),decide (15∈T),decide (3∈T),decide (4∈T),decide (5∈T),decide (24∈T)]=_;rw[z 6 (by decide),z 20 (by decide),z 7 (by decide),z 12 (by decide),z 3 (by decide),z 4 (by decide),z 5 (by decide),z 24 (by decide)];rfl
 have c:=MD (decide (25∈T)) (decide (26∈T)) (decide (23∈T)) (decide (14∈T)) (decide (15∈T));unfold Uw at c
 rw[<-e]at c
 refine⟨Bu F,λk h w hw=>?_,λh w hw=>?_⟩
 .rw[show NF.filter (fu (vf (vT T)))=[k]from h]at c
  have m:fu (iW T) k=true:=(cR.mp (show k∈NF.filter (fu (iW T))by rw[h];exact aj)).2
  have Tv:k≠24:=λe24=>by
   subst e24;rw[show fu (iW T) 24=decide (24∈T)from rfl,z 24 (by decide)]at m
   exact ft m
  rw[if_neg Tv];exact beq_iff_eq.mp (aJ.mp c w hw)
 .change 2<=(NF.filter (fu (vf (vT T)))).length at h
  show oF (vf (vT T)) _=_;generalize NF.filter (fu (vf (vT T)))=K at c h
  match K,c,h with
  |[],_,h=>exact absurd h (by decide)
  |[_],_,h=>exact absurd h (show¬2<=1 by decide)
  |a::b::K,c,_=>exact beq_iff_eq.mp (aJ.mp c w hw)
theorem ZX(T:S1):UB (iW T):=by
 have F:=Uq T
 induction h:k7 (iW T)
 .exact HT F h
 .exact HS F h

theorem jY{row:S3}:qA (cj X (.f row)).2 (cj X (.f row)).1 row/\0<=(cj X (.f row)).1/\((cj X (.f row)).2=X\/(cj X (.f row)).2=X++[.f row]):=by
 unfold cj qA kI
 induction h:dS (.f row) (T1++X)with
 |some j=>
  obtain⟨r,h1,h2⟩:=yh h;have:r=.f row:=by
   unfold Ni at h2
   exact SS (by induction e:rN r (.f row)with
    |none=>rw[e]at h2;exact ft h2
    |some q=>rw[e]at h2;induction q;exact ft h2;rfl)
  subst this;exact⟨by rw[if_pos (bC _)];exact h1,bC _,.inl rfl⟩
 |none=>refine⟨?_,bC _,.inr rfl⟩;rw[if_pos (bC _)];show(T1++(X++[_]))[(T1++X).length]?=_;rw[<-aK,bP (aH _),iY];rfl
theorem rE{row:S3}(h:qA X t row)(h0:0<=t):qA (X++Y) t row:=by
 unfold qA kI at h⊢
 rw[if_pos h0]at h⊢
 rw[<-aK,aZ (aL.mp h).1];exact h

variable{X1:S3}{f b':Int}{fc:Fc}
theorem Kl{k:Int}:∀{l:S1},(ig k l).Perm (k::l)
 |[]=>.refl _
 |x::r=>by
  unfold ig;split
  .exact .refl _
  .exact(Kl.cons x).trans (.swap ..)
theorem JL:∀{l:S1},(mu l).Perm l
 |[]=>.refl _
 |x::r=>Kl.trans (JL.cons x)
theorem qc:(mP T []).Nodup:=(qB.O (A:=T.flatMap rK) (G:=[]) ⟨qi,λJ h=>nomatch h⟩ λt ht x hx=>List.mem_flatMap.mpr ⟨t,ht,hx⟩).a
theorem oh(h:G.Nodup):(qH (lC G)).Nodup:=List.Pairwise.filter _ (JL.nodup_iff.mpr (qB.c' (A:=8::9::G) ⟨h,λx hx=>af _ (af _ hx)⟩ aj (af _ aj)).a)
abbrev keep(L:S1):S1:=qH (lC (mP L []))
theorem tN(hb:GK b)(R:oO b (mP L []) q):(keep L=[]/\qu X L=(2,X))\/(∃k,keep L=[k]/\qu X L=(k,X))\/(2<=(keep L).length/\qu X L=cj X (.f (oA (keep L)))):=by
 have no:∀z:Int,z∉UA->z<24->z∉mP L []:=λz h1 h2 h=>by
  obtain⟨x,hx,rfl⟩:=R.a z h;by_cases e:x=24
  .subst e;rw[show iR b 24=b from if_pos rfl]at h2
   exact hb.elim (λe=>Int.lt_irrefl _ (e▸h2)) λz=>jW.mpr (i8 (by decide) z) h2
  .rw[iu e]at h1;exact h1 hx
 unfold qu W8 BV;rw[if_neg (no 0 (by decide) (by decide)),if_neg (no 13 (by decide) (by decide)),if_neg (no 1 (by decide) (by decide)),if_neg (show¬(0:Int)<= -1 by decide)]
 unfold keep;generalize qH (lC (mP L []))=K
 match K with
 |[]=>exact .inl ⟨rfl,rfl⟩
 |[k]=>exact .inr (.inl ⟨k,rfl,rfl⟩)
 |a::b::K=>exact .inr (.inr ⟨gU ..,rfl⟩)
def mB(b y:Int):Nat:=if y=b then 1024 else if y=24 then 8192 else sN y
noncomputable def z9(m:Int->Nat):S1->Nat
 |[]=>0
 |x::r=>m x|||z9 m r
theorem FQ{m:Int->Nat}:∀{l:S1},(z9 m l).testBit i=l.any λx=>(m x).testBit i
 |[]=>nH i
 |x::r=>by rw[z9,Nat.testBit_or,FQ];rfl
theorem zC{m:Int->Nat}:∀{l:S1},(mJ m q l).testBit i=l.any λx=>q x&&(m x).testBit i
 |[]=>nH i
 |x::r=>by
  rw[mJ,Nat.testBit_or,zC,dF]
  induction q x
  .rw[if_neg aO,nH];rfl
  .rw[if_pos rfl];rfl
theorem J0(hb:27<=b)(hx:x∈UA):mB b (iR b x)=sN x:=by
 unfold mB;by_cases e:x=24
 .subst e;rw[show iR b 24=b from if_pos rfl,if_pos rfl];rfl
 .have:x<27:=(by decide:∀z∈UA,z<27) x hx
  rw[iu e,if_neg (by exactλe'=>Nd [.a jD ja,.b jb jD,.e jb ja] rfl hb this e'),if_neg e]
theorem QE(hb:27<=b)(R:oO b L q):z9 (mB b) L=mJ sN q NF:=by
 apply Nat.eq_of_testBit_eq;intro i;rw[FQ,zC,gW,cI,cI];constructor
 .rintro ⟨y,h1,h2⟩;obtain⟨x,hx,rfl⟩:=R.a y h1;rw[J0 hb hx]at h2
  exact⟨x,(by decide:∀x∈UA,x∈NF) x hx,by rw[(R.I (af _ hx)).mp h1];exact h2⟩
 .rintro ⟨x,h1,h2⟩;have hx:=(by decide:∀x∈NF,x∈UA) x h1
  rw[bg]at h2
  exact⟨_,(R.I (af _ hx)).mpr h2.1,by rw[J0 hb hx];exact h2.2⟩
theorem Hu(hb:27<=b)(hb':27<=b')(R:oO b L q)(h:q 24=false):oO b' L q:=by
 have lt:∀{z},z∈UM->z<27:=λh=>(by decide:∀z∈UM,z<27) _ h
 have ne:∀x∈UA,iR b x∈L->x≠24:=λx hx hm e=>by subst e;rw[R.I (by decide)]at hm;rw[h]at hm;exact ft hm
 refine⟨λx hx=>?_,λy hy=>?_⟩
 .by_cases e:x=24
  .subst e;rw[h,decide_eq_false_iff_not,show iR b' 24=b' from if_pos rfl]
   intro hm;obtain⟨x,h1,h2⟩:=R.a b' hm;have:=ne x h1 (h2▸hm);rw[iu this]at h2
   have:=lt (af (-1) h1);exact Nd [.a jD ja,.f ja jb,.b jb jD] rfl hb' h2 this
  .rw[iu e,<-R.c x hx,iu e]
 .obtain⟨x,h1,rfl⟩:=R.a y hy;have:=ne x h1 hy;exact⟨x,h1,by rw[iu this,iu this]⟩
def nC(X:S3)(f:Int)(R:S1):Prop:=0<=f/\((R=[]/\f=2)\/qA X f (oA R)\/(R=[f]/\∃c t,qA X f (.d c::t)/\c≠6))
theorem nC.c'{R:S1}(h:nC X f R):nC (X++Y) f R:=⟨h.1,h.2.imp id (Or.imp (rE · h.1) λh2=>⟨h2.1,h2.2.imp λc h3=>h3.imp λt h4=>⟨rE h4.1 h.1,h4.2⟩⟩)⟩

variable{h c:Int}{K1:S1}{q1:Int->Bool}{t:S3}
theorem PS(hf:qA X f (.d c::t))(hc:c=6\/c=8)(h4:f≠4)(h5:f≠5)(go:k (.g false) (S4 d X r rg ni)):av (n+2) 19 [.a (.e 1),.a (.d f)] (S4 d X r rg ni) k:=by refine in_w<|fW (b:=f==4) (beq_eq_false_iff_ne.mpr h4)<|fW (b:=f==5) (beq_eq_false_iff_ne.mpr h5)<|in_w<|cG (o:=kI (T1++X) f) hf ?_;rcases hc with rfl|rfl<;>exact go
theorem su(hf:qA X f (.d c::t))(hc:c=6\/c=8)(h4:f≠4)(h5:f≠5)(go:av (n+2) 33 [.a (.e 1),.a (.d f)] (S4 d X fc.I ([]::rg) ni) λv s=>av (n+2) 22 [.a (.e 1),.a v] s λv s=>k v (s.I List.tail)):
  av (n+3) 42 [.a (.e 17),.a (.d f),.a (.d h)] (S4 d X fc.I rg ni) k:=by
 refine in_w ?_;refine PS hf hc h4 h5 ?_;exact go
theorem GQ(hX:X.length<900)(go:k (.d (cj X gh).1) (S4 d (cj X gh).2 r rg ni)):av (n+6) 33 [.a (.e 1),.a (.d 24)] (S4 d X r rg ni) k:=by
 refine in_w<|in_w<|in_w ?_;refine J4 (p:=23) (D:=[(.d 24,.d 24)]) (cs:=[]) (m:=1) (by decide) ⟨λp hp=>.inl ((kU (D:=[]) (λe=>by subst e;exact absurd hp (by decide))).trans rfl),aH _⟩ (by decide) λD' h1 J=>?_
 refine wo (p:=23) (by decide) ?_
 refine Az (row:=gh) rfl hX ?_;exact dP (p:=D'.length<100000) (by have:=h1.a;exact fJ ja aX [.a ja (.a aU iH)] rfl this) (cG (o:=bA (.d 24) (cY (.d 24) (.d (cj X gh).1) D')) jl go)
theorem Hv(hb:qA X b (iG 16 0))(CA:27<=b)(go:k (.d b) (S4 d X r rg ni)):av (n+3) 22 [.a (.e 1),.a (.d b)] (S4 d X r rg ni) k:=by refine in_w<|in_w<|cG (o:=kI (T1++X) b) hb ?_;refine XW hb CA ?_;rw[(XC CA).2.2.2];exact go
noncomputable def ds:aaf->S3
 |some (.f (_::t))=>t
 |_=>[]
theorem pg(hx:x∈UA):qA X x (.d (Od (kI T1 x))::ds (kI T1 x))/\Od (kI T1 x)≠6:=by
 have e:UA.map (λx=>kI (T1++X) x)=UA.map λx=>some (.f (.d (Od (kI T1 x))::ds (kI T1 x))):=by kernel_rfl
 exact⟨fN e hx,(by decide+kernel:∀x∈UA,Od (kI T1 x)≠6) x hx⟩
theorem Lr{q2:Int->Bool}(hb:GK b)(h1:K.Nodup)(h2:L.Nodup)(R1:oO b K q)(R2:oO b L q2)(e:∀x∈UA,q x=q2 x):K.Perm L:=
 (List.perm_ext_iff_of_nodup h1 h2).mpr λy=>⟨λhy=>by
  obtain⟨x,hx,rfl⟩:=R1.a y hy;have I3:=af (-1) hx;exact(R2.I I3).mpr (e x hx▸(R1.I I3).mp hy),λhy=>by
  obtain⟨x,hx,rfl⟩:=R2.a y hy;have I3:=af (-1) hx;exact(R1.I I3).mpr ((e x hx).trans ((R2.I I3).mp hy))⟩
def nZ(Y:S3):Prop:=∀y∈Y,y=gh\/∃K,y=.f (oA K)
theorem nZ.e'{Z:S3}(a:nZ Y)(b:nZ Z):nZ (Y++Z):=λy hy=>(aS.mp hy).elim (a y) (b y)
theorem nZ.f':nZ [.f (oA K)]:=λy hy=>.inr ⟨K,aB.mp hy⟩
theorem nZ.d':nZ []:=λJ h=>nomatch h
theorem Tg{A:S1}(hb:27<=b)(R1:oO 24 K1 q1)(hn:K1.Nodup)(h2:2<=K1.length)(hl:K1.length<=16)(hK:∀p∈K1,p∈j8\/p=24)(hf:qA X1 f (oA K1))(hX1:X1.length<=20)(Y0:X2.length<=21)(e1:24∈K1->cj X1 gh=(b,X2))(e2:24∉K1->X1=X2)
  (Z:∀Y,Nt d (X2++Y) r ni A)(G:∀Y,∀p∈A,p≠12->∀{rg:V5}{k:KP},k (.d (nM p)) (S4 d (X2++Y) r rg ni)->av (n+7) 21 [.a (.e 1),.a (.d p)] (S4 d (X2++Y) r rg ni) k)(hA:∀x∈UA,x≠24->x∈A)(hbA:24∈K1->b∈A)(Bn:24∈K1->qA X2 b (iG 16 0))(hq:∀x∈UA,qv q1 x=q1 x)
  (go:∀f' Y R,oO b R (qv (N7 (qv q1)))->nC (X2++Y) f' R->Y.length<=2->nZ Y->k (.d f') (S4 d (X2++Y) r rg ni)):
  av (n+8) 33 [.a (.e 1),.a (.d f)] (S4 d X1 r ([]::rg) ni) λv s=>av (n+8) 22 [.a (.e 1),.a v] s λv s=>k v (s.I List.tail):=by
 have hB:GK b:=.inr hb;have R2:=R1.d' hB;have sG:∀x,iR 24 x=x:=λx=>by unfold iR;split<;>simp_all
 have nm:∀x∈K1,x∈UM:=λx hx=>by obtain⟨y,hy,rfl⟩:=R1.a x hx;rw[sG];exact af _ hy
 have xz:(K1.map (iR b)).Nodup:=List.pairwise_map.mpr (List.Pairwise.imp_of_mem (λha hc sW e=>sW (zg hB (nm _ ha) (nm _ hc) e)) hn)
 have R3:=(R2.O hB).V hB;have nd3:(keep (K1.map (iR b))).Nodup:=oh qc;have pm:=Lr hB nd3 xz R3 R2 hq;have ln:(keep (K1.map (iR b))).length=K1.length:=pm.length_eq.trans (ao ..);have YR:∀{L:S1}{p:Int->Bool},oO b L p->(p 24=true->24∈K1)->∀y∈L,y∈A/\y≠12:=λ{L p} R h y hy=>by
  obtain⟨x,hx,rfl⟩:=R.a y hy;by_cases e:x=24
  .subst e;have:=h ((R.I (by decide)).mp hy)
   rw[show iR b 24=b from if_pos rfl]
   exact⟨hbA this,by exact I1 hb rfl⟩
  .rw[iu e];exact⟨hA x hx e,(by decide:∀x∈UA,x≠12) x hx⟩
 have c1:q1 24=true->24∈K1:=λh=>by have:=(R1.I (x:=24) (by decide)).mpr h;rw[sG]at this;exact this
 have c3:qv q1 24=true->24∈K1:=λh=>c1 ((hq 24 (by decide)).symm.trans h)
 have y5:X1.length+K1.length<900:=by exact fh (.a ja jb) eH [.a jb (.n 16),.a ja iT] rfl hl hX1
 have Z0:=Z [];rw[az]at Z0
 refine xQ hf hK hn y5 (by exact fJ ja uP [.a ja (.n 16)] rfl hl) e1 e2 (by exact fJ ja eH [.a ja NR] rfl Y0) Z0 (λp hp=>(YR R2 c1 p hp).1) ?_
 have U2:=(tN (X:=X2) hB (R2.O hB)).resolve_left (λh=>by rw[h.1]at ln;rw[<-ln]at h2;exact absurd h2 (by decide))
 have U2:=U2.resolve_left (λ⟨k,h,_⟩=>by rw[h]at ln;rw[<-ln]at h2;exact absurd h2 (show¬2<=1 by decide))
 rw[U2.2];obtain⟨p1,p2,p3⟩:=jY (X:=X2) (row:=oA (keep (K1.map (iR b))));generalize cj X2 (.f (oA (keep (K1.map (iR b)))))=u at *
 obtain⟨f2,X3⟩:=u;obtain⟨Y1,Xw,Xu,Og⟩:∃Y1,X3=X2++Y1/\Y1.length<=1/\nZ Y1:=by
  rcases p3 with h|h
  .exact⟨[],h.trans (az _).symm,bI _,.d'⟩
  .exact⟨_,h,aH _,.f'⟩
 dsimp only at p1⊢
 subst Xw;have R4:=R3.e' hB;have c4:N7 (qv q1) 24=true->24∈K1:=λh=>by
  obtain⟨x,hx,h3⟩:=cI.mp h;rw[bg,decide_eq_true_iff]at h3
  exact c3 ((by decide:∀x∈UA,nM x=24->x=24) x hx h3.1▸h3.2)
 refine xT p1 (λp hp=>G Y1 p (YR R3 c3 p hp).1 (YR R3 c3 p hp).2) (by rw[aa];exact fh (.a ja jb) eH [.a ja NR,.a jb aU] rfl Y0 Xu) (by exact fh ja uP [.a jb (.n 16),.f ja jb] rfl hl ln) (Z Y1) (λp hp=>(YR R4 c4 p hp).1) ?_
 have R5:=(R4.O hB).V hB;rcases tN (X:=X2++Y1) hB (R4.O hB)with⟨h,e⟩|⟨k,h,e⟩|⟨h,e⟩
 .rw[e];exact go 2 Y1 _ R5 ⟨by decide,.inl ⟨h,rfl⟩⟩ (by exact kQ ja iH [.a ja aU] rfl Xu) Og
 .rw[e];have kn:0<=k:=by
   obtain⟨x,hx,hk⟩:=R5.a k (by show k∈keep _;rw[h];exact aj)
   rw[hk];unfold iR;split
   .exact I2 fU ja [.a jD ja] rfl hb
   .exact(by decide:∀x∈UA,0<=x) x hx
  refine go k Y1 _ R5 ⟨kn,.inr (.inr ⟨h,?_⟩)⟩ (by exact kQ ja iH [.a ja aU] rfl Xu) Og
  obtain⟨x,hx,hk⟩:=R5.a k (by show k∈keep _;rw[h];exact aj)
  by_cases e:x=24
  .subst e;rw[show iR b 24=b from if_pos rfl]at hk
   subst hk;have m:k∈K1.map (iR k)->24∈K1:=λh=>by
    obtain⟨z,h1,h3⟩:=bF.mp h;by_cases e:z=24
    .exact e▸h1
    .rw[iu e]at h3
     have:z<27:=(by decide:∀z∈UM,z<27) z (nm z h1)
     exact absurd (h3▸this) (jW.mpr hb)
   have pS:24∈K1:=by
    have:qv (N7 (qv q1)) 24=true:=(R5.I (x:=24) (by decide)).mp (by rw[show iR k 24=k from if_pos rfl];show k∈keep _;rw[h];exact aj)
    have:N7 (qv q1) 24=true:=by
     unfold qv at this
     rw[bg]at this
     have:=this.1;unfold jB at this
     rw[show(decide ((24:Int)=8)||decide ((24:Int)=9))=false from rfl,xC,d7]at this
     exact this
    exact c4 this
   exact⟨8,_,rE (Bn pS) (by exact I2 fU ja [.a jD ja] rfl hb),by decide⟩
  .rw[iu e]at hk
   subst hk;exact⟨_,_,(pg hx).1,(pg (X:=[]) hx).2⟩
 .rw[e];obtain⟨s1,s2,s3⟩:=jY (X:=X2++Y1) (row:=oA (keep ((keep (K1.map (iR b))).map nM)));generalize cj (X2++Y1) (.f (oA (keep ((keep (K1.map (iR b))).map nM))))=u at *
  obtain⟨f3,X4⟩:=u;dsimp only at s1 s2 s3⊢
  rcases s3 with h|h
  .subst h;exact go f3 Y1 _ R5 ⟨s2,.inr (.inl s1)⟩ (by exact kQ ja iH [.a ja aU] rfl Xu) Og
  .subst h;rw[aK]at s1⊢
   exact go f3 _ _ R5 ⟨s2,.inr (.inl s1)⟩ (by rw[aa];show Y1.length+1<=2;exact kQ (.a ja aU) iH [.a ja aU] rfl Xu) (Og.e' .f')

theorem n9{k:PV}:∀{T:S3},dS k T=none->dS k (T++X)=(dS k X).map (· +T.length)
 |[],_=>(Option.map_id' ..).symm
 |r::rs,h=>by
  simp only[dS,iM]at h⊢
  split at h
  .exact sn h
  .rename_i hr;rw[if_neg hr,n9 (mj.mp h),Option.map_map];rfl
theorem qm:27<=(cj X gh).1:=by
 have e:=n9 (X:=X) (k:=gh) (T:=T1) (by kernel_rfl)
 unfold cj;rw[e]
 induction dS gh X with
 |some j=>show(27:Int)<=((j+27:Nat):Int);exact I2 jD (.a ja jD) [.a fU ja] rfl (bC _)
 |none=>show(27:Int)<=(((T1++X).length:Nat):Int);rw[aa];show(27:Int)<=((27+X.length:Nat):Int);exact I2 jD (.a jD ja) [.a fU ja] rfl (bC _)
theorem yf{row:PV}(hr:Ni row row=true):(cj ((cj X row).2++Y) row).1=(cj X row).1:=by
 have key:∃j:Nat,dS row (T1++(cj X row).2)=some j/\(cj X row).1=j:=by
  unfold cj
  induction e:dS row (T1++X)with
  |some j=>exact⟨j,e,rfl⟩
  |none=>
   refine⟨_,?_,rfl⟩;show dS row (T1++(X++[row]))=_;rw[<-aK,n9 e];show Option.map _ (if Ni row row then some 0 else _)=_
   rw[if_pos hr];exact congrArg some (gc _)
 obtain⟨j,h1,h2⟩:=key;have:=HA (X:=Y) h1;rw[h2];generalize (cj X row).2=X2 at *
 rw[aK]at this
 unfold cj;rw[this]
theorem Ls(hT:∀t∈T,t∈jy):oO 24 (keep T) (qv (gB (iW T)))/\(keep T).Perm (NF.filter (fu (iW T))):=by
 have R:=(Gk hT).V (.inl rfl);have F:=Uq T;have sG:∀x,iR 24 x=x:=λx=>by unfold iR;split<;>simp_all
 refine⟨R,(List.perm_ext_iff_of_nodup (oh qc) (List.Pairwise.filter _ (by decide))).mpr λy=>?_⟩
 rw[cR];constructor
 .intro hy;obtain⟨x,hx,rfl⟩:=R.a y hy;have hn:=(by decide:∀x∈UA,x∈NF) x hx
  have:=(R.I (af _ hx)).mp hy;rw[sG];exact⟨hn,by rw[<-bV.mp F.a x hn];exact this⟩
 .rintro ⟨hn,e⟩;have:=(R.I (af _ ((by decide:∀x∈NF,x∈UA) y hn))).mpr (by rw[bV.mp F.a y hn];exact e)
  rw[sG]at this;exact this
theorem VI{v:Int->Bool}{w:Nat}(h:mJ mN v rV=0):oF v w=0:=by
 unfold oF TV;rw[h]
 split<;>rfl
theorem uA{kk:Int}(hk:kk∈2::UA)(pS:kk≠24)(hh:h∈dG)(go:∀f' R,nC X f' R->(∀b',27<=b'->z9 (mB b') R=Eu (z6 kk h))->k (.d f') (S4 d X fc.I rg ni)):av (n+9) 42 [.a (.e 17),.a (.d kk),.a (.d h)] (S4 d X fc.I rg ni) k:=by
 refine qN ((by decide:∀x∈2::UA,x≠24->x∈lB) kk hk pS) hh ?_
 have F:=(by decide:∀x∈2::UA,x≠24->∀h∈dG,z6 x h=2\/z6 x h=12\/(z6 x h∈UA/\z6 x h≠24/\z6 x h<27)) kk hk pS h hh
 rcases F with e|e|⟨e1,e2,e3⟩
 .rw[e]at go⊢;exact go 2 [] ⟨by decide,.inl ⟨rfl,rfl⟩⟩ λJ J=>rfl
 .rw[e]at go⊢
  refine go 12 [8,9] ⟨by decide,.inr (.inl (show kI (T1++X) 12=some (.f (oA [8,9]))by kernel_rfl))⟩ λb' hb=>?_
  have m:∀y:Int,y<24->mB b' y=sN y:=λy hy=>by unfold mB;rw[if_neg (by exactλe'=>Nd [.a jD ja,.b jb (.n 24),.e jb ja] rfl hb hy e'),if_neg (by exactλe'=>Xq [.b ja (.n 24),.e ja (.n 24)] rfl hy e')]
  show mB b' 8|||(mB b' 9|||0)=384;rw[m 8 (by decide),m 9 (by decide)];rfl
 .refine go _ [_] ⟨(by decide:∀x∈UA,0<=x) _ e1,.inr (.inr ⟨rfl,_,_,(pg e1).1,(pg (X:=[]) e1).2⟩)⟩ λb' hb=>?_
  show mB b' _|||0=_;unfold mB Eu;rw[if_neg (by exactλe'=>Nd [.b ja jD,.a jD jb,.e ja jb] rfl e3 hb e'),if_neg e2,if_neg (λe=>absurd e1 (by rw[e];decide)),Nat.or_zero]
theorem Cg(hh:h∈dG)(hX:X.length<900)(go:∀f' Y R,nC (X++Y) f' R->z9 (mB (cj (X++Y) gh).1) R=1024->Y.length<=4->nZ Y->k (.d f') (S4 d (X++Y) fc.I rg ni)):av (n+9) 42 [.a (.e 17),.a (.d 24),.a (.d h)] (S4 d X fc.I rg ni) k:=by
 obtain⟨p1,J,p3⟩:=jY (X:=X) (row:=iG 16 0);have ge:=qm (X:=X);have ag:=yf (X:=X) (row:=gh) (by kernel_rfl) (Y:=[])
 rw[az]at ag
 refine su (n:=n+6) (f:=24) (c:=8) (pg (by decide)).1 (.inr rfl) (by decide) (by decide) ?_
 refine GQ hX ?_;refine Hv p1 ge ?_;have eF:∀Y,(cj X gh).2=X++Y->Y.length<=4->nZ Y->k (.d (cj X gh).1) (S4 d (cj X gh).2 fc.I rg ni):=λY e hl hm=>by
  rw[e]at p1 ag⊢
  refine go _ Y [_] ⟨i8 (by decide) ge,.inr (.inr ⟨rfl,8,_,p1,by decide⟩)⟩ ?_ hl hm
  rw[ag];show mB _ _|||0=_;unfold mB;rw[if_pos rfl];rfl
 change(cj X gh).2=X\/(cj X gh).2=X++[gh]at p3
 rcases p3 with e|e
 .exact eF [] (e.trans (az _).symm) (bI _) .d'
 .exact eF [gh] e (by decide) λy hy=>.inl (aB.mp hy)
theorem Hg(hT:∀t∈T,t∈jy)(hh:h∈dG)(hX:X.length<=10)(go:∀f' Y R,nC (X++Y) f' R->z9 (mB (cj (X++Y) gh).1) R=oF (iW T) (fR h)->Y.length<=4->nZ Y->k (.d f') (S4 d (X++Y) fc.I rg ni)):
  av (n+11) 42 [.a (.e 17),.a (.d (qu X T).1),.a (.d h)] (S4 d (qu X T).2 fc.I rg ni) k:=by
 obtain⟨R1,pm⟩:=Ls hT;have F:=Uq T;have Lk:=ZX T;have hK:∀p∈keep T,p∈j8\/p=24:=λp hp=>by have:=cR.mp (pm.mem_iff.mp hp);exact(by decide:∀p∈NF,p=16\/p=18\/p∈j8\/p=24) p this.1 |>.elim (λe=>by subst e;exact absurd this.2 (by show¬(false=true);decide)) λh=>h.elim (λe=>by subst e;exact absurd this.2 (by show¬(false=true);decide)) λh=>h
 rcases tN (X:=X) (.inl rfl) (Gk hT)with⟨e1,e2⟩|⟨kk,e1,e2⟩|⟨e1,e2⟩
 .rw[e2];refine uA (kk:=2) (by decide) (by decide) hh λf' R hp hm=>?_
  have go:=go f' [] R;rw[az]at go
  refine go hp ?_ (bI _) .d';rw[hm _ qm,VI (Lk.c (List.Perm.eq_nil (e1▸pm).symm))];exact(by decide:∀h∈dG,Eu (z6 2 h)=0) h hh
 .rw[e2];have e3:=List.perm_singleton.mp (e1▸pm).symm;have m:=cR.mp (show kk∈NF.filter (fu (iW T))by rw[e3];exact aj)
  have L1:=Lk.b kk e3 h hh;by_cases pS:kk=24
  .subst pS;rw[if_pos rfl]at L1
   exact Cg hh (by exact fJ ja eH [.a ja sF] rfl hX) λf' Y R hp hm hl hy=>go f' Y R hp (hm.trans L1.symm) hl hy
  .rw[if_neg pS]at L1
   refine uA (af _ ((by decide:∀x∈NF,x∈UA) kk m.1)) pS hh λf' R hp hm=>?_
   have go:=go f' [] R;rw[az]at go
   exact go hp ((hm _ qm).trans L1.symm) (bI _) .d'
 .obtain⟨p1,p2,p3⟩:=jY (X:=X) (row:=oA (keep T));rw[e2];generalize cj X (.f (oA (keep T)))=u at *
  obtain⟨f1,X1⟩:=u;dsimp only at p1 p2 p3⊢
  obtain⟨Y1,Xw,l1,Og⟩:∃Y1,X1=X++Y1/\Y1.length<=1/\nZ Y1:=by
   rcases p3 with e|e
   .exact⟨[],e.trans (az _).symm,bI _,.d'⟩
   .exact⟨_,e,aH _,.f'⟩
  have lX:X1.length<=X.length+1:=by rw[Xw,aa];exact mK (.a ja jb) (.a ja aU) [.a jb aU] rfl l1
  have lk:(keep T).length<=16:=by rw[pm.length_eq];exact mU ..
  have L2:=Lk.a (by rw[<-pm.length_eq];exact e1) h hh
  have eF:∀{b:Int}{R:S1},27<=b->oO b R (NU (iW T))->z9 (mB b) R=oF (iW T) (fR h):=λhb R=>by rw[QE hb R,L2,F.d];exact tR λx hx=>bV.mp F.c x hx
  have fo:24∈keep T↔fu (iW T) 24=true:=by rw[pm.mem_iff,cR];exact⟨And.right,λh=>⟨by decide,h⟩⟩
  have hq:∀x∈UA,qv (qv (gB (iW T))) x=qv (gB (iW T)) x:=λx hx=>by
   have hn:=(by decide:∀x∈UA,x∈NF) x hx
   rw[bV.mp F.a x hn,bV.mp F.e x hn]
  refine su (n:=n+8) p1 (.inl rfl) (yH p1 (by decide)) (yH p1 (by decide)) ?_
  by_cases pS:24∈keep T
  .obtain⟨s1,J,s3⟩:=jY (X:=X1) (row:=iG 16 0);have ge:=qm (X:=X1);have ag:∀Y,(cj ((cj X1 gh).2++Y) gh).1=(cj X1 gh).1:=λY=>yf (by kernel_rfl)
   have pr:cj X1 gh=((cj X1 gh).1,(cj X1 gh).2):=rfl;change(cj X1 gh).2=X1\/(cj X1 gh).2=X1++[gh]at s3
   change qA (cj X1 gh).2 (cj X1 gh).1 (iG 16 0)at s1
   generalize (cj X1 gh).1=b at *
   generalize (cj X1 gh).2=X2 at *
   obtain⟨Y2,hY2,l2,Of⟩:∃Y2,X2=X1++Y2/\Y2.length<=1/\nZ Y2:=by
    rcases s3 with e|e
    .exact⟨[],e.trans (az _).symm,bI _,.d'⟩
    .exact⟨_,e,aH _,λy hy=>.inl (aB.mp hy)⟩
   have lX2:X2.length<=X1.length+1:=by rw[hY2,aa];exact mK (.a ja jb) (.a ja aU) [.a jb aU] rfl l2
   refine Tg (n:=n+2) (A:=b::lB) ge R1 (oh qc) e1 lk hK p1 (by exact mK ja iT [.a jb sF,.a ja (.a jb aU)] rfl hX lX) (by exact pR ja NR [.a jb sF,.a jc (.a jb aU),.a ja (.a jc aU)] rfl hX lX lX2) (λJ=>pr) (λh=>absurd pS h) (λY=>y7 (rE s1 (by exact I2 fU ja [.a jD ja] rfl ge)) ge) (λY p hp j1=>?_) (λx hx h=>af _ ((by decide:∀x∈UA,x≠24->x∈lB) x hx h)) (λJ=>aj) (λJ=>s1) hq λf' Y R hR hp hY hm=>?_
   .rcases aF.mp hp with rfl|hp
    .intro rg k hk;exact XW (rE s1 (by exact I2 fU ja [.a jD ja] rfl ge)) ge hk
    .intro rg k hk;exact JS ((aF.mp hp).resolve_left j1) hk
   .have ag:=ag Y;rw[hY2,Xw,aK,aK]at hp ag⊢
    exact go f' _ R hp (by rw[ag];exact eF ge hR) (by rw[aa,aa];exact pR (.a ja (.a jb jc)) qz [.a ja aU,.a jb aU,.a jc iH] rfl l1 l2 hY) (Og.e' (Of.e' hm))
  .have I9:NU (iW T) 24=false:=by
    rw[bV.mp F.c 24 (by decide)]
    exact dg.mpr λh=>pS (fo.mpr h)
   refine Tg (n:=n+2) (b:=27) (X2:=X1) (A:=lB) (rA _) R1 (oh qc) e1 lk hK p1 (by exact mK ja iT [.a jb sF,.a ja (.a jb aU)] rfl hX lX) (by exact mK ja NR [.a jb sF,.a ja (.a jb aU)] rfl hX lX) (λh=>absurd h pS) (λJ=>rfl) (λY=>y8) (λY p hp j1=>?_) (by decide) (λh=>absurd h pS) (λh=>absurd h pS) hq λf' Y R hR hp hY hm=>?_
   .intro rg k hk;exact JS ((aF.mp hp).resolve_left j1) hk
   .have key:=eF (qm (X:=X1++Y)) (Hu (rA _) qm hR I9);rw[Xw,aK]at hp key⊢
    exact go f' _ R hp key (by rw[aa];exact mK (.a ja jb) qz [.a ja aU,.a jb iH] rfl l1 hY) (Og.e' hm)

mutual
inductive Tr
 |a (id:Nat) (kind:Int) (w:PV) (fl at_:Int) (Yb:Ks)
inductive Ks
 |a
 |c (r:Ks)
 |b (t:Tr) (r:Ks)
end
mutual
noncomputable def Tr.I:Tr->PV
 |.a id k w f p ks=>.l id [.d k,w,.j ks.J,.d f,.d p]
noncomputable def Ks.J:Ks->S3
 |.a=>[]
 |.c r=>.h::r.J
 |.b t r=>t.I::r.J
end
noncomputable def Ks.I:Ks->List Tr
 |.a=>[]
 |.c r=>r.I
 |.b t r=>t::r.I
noncomputable def Tr.c':Tr->Nat
 |.a id _ _ _ _ _=>id
noncomputable def Tr.f':Tr->Ks
 |.a _ _ _ _ _ ks=>ks
mutual
noncomputable def Tr.O:Tr->Nat
 |.a _ _ _ _ _ ks=>ks.O+1
noncomputable def Ks.O:Ks->Nat
 |.a=>0
 |.c r=>r.O+1
 |.b t r=>t.O+r.O
end
mutual
noncomputable def Tr.V:Tr->List Tr
 |.a id k w f p ks=>.a id k w f p ks::ks.e'
noncomputable def Ks.e':Ks->List Tr
 |.a=>[]
 |.c r=>r.e'
 |.b t r=>t.V++r.e'
end
noncomputable def qS(l:List Tr):List Tr:=l.flatMap Tr.V
noncomputable def iN(l:List Tr):Nat:=(l.map Tr.O).sum
theorem Dp:∀k:Ks,k.e'=qS k.I
 |.a=>rfl
 |.c r=>Dp r
 |.b t r=>congrArg (t.V++ ·) (Dp r)
theorem rC:∀k:Ks,iN k.I<=k.O
 |.a=>aH _
 |.c r=>dQ (rC r)
 |.b t r=>bY (rC r) _
theorem vq:∀k:Ks,k.J.length<=k.O
 |.a=>aH _
 |.c r=>cA (vq r)
 |.b t r=>by
  have t9:=vq r;have:1<=t.O:=by induction t using Tr.casesOn;exact gU ..
  show r.J.length+1<=t.O+r.O;exact pR (.a ja aU) (.a jb jc) [.a ja jc,.a aU jb] rfl t9 this
theorem Ql(t:Tr):t.f'.O+1=t.O:=by induction t using Tr.casesOn;rfl
theorem ci(t:Tr):t.V=t::qS t.f'.I:=by induction t using Tr.casesOn;exact congrArg _ (Dp _)
theorem wg(a b:List Tr):qS (a++b)=qS a++qS b:=oZ
theorem nt(a b:List Tr):iN (a++b)=iN a+iN b:=by unfold iN;rw[aD,List.sum_append]
def CkL(loc:dj)(i:Nat)(k:S3->St->Prop)(s:St)(t:List Tr)(v:S3):Prop:=∀⦃p:S3⦄ ⦃a:S3⦄,k (a++t.map Tr.I) s->compLoop (.inl i) (.a (p++v)) (IM (bx i) true) (bx i) loc (v.length+1) p.length a s k
theorem zJ{k:S3->St->Prop}{s:St}(hi:i<loc.length):∀{ks:Ks},CkL loc i k s ks.I ks.J
 |.a=>λp a h=>by
  have h:k (a++[]) s:=h;rw[az]at h
  exact cG rfl (w7 pK h)
 |.c r=>λp a h=>by refine cG rfl (uh nE ?_);show lk (loc.set i (some (.a .h)))[i]? _;rw[bJ hi];have:=zJ (k:=k) (s:=s) hi (ks:=r) (p:=p++[.h]) (a:=a) h;rwa [aK,aa]at this
 |.b (.a id kd w f q ks) r=>λp a h=>by
  refine cG rfl (uh nE ?_);show lk (loc.set i (some (.a (Tr.I (.a id kd w f q ks)))))[i]? _;rw[bJ hi];show lk (loc.set i (some (.a (Tr.I (.a id kd w f q ks)))))[i]? _;rw[bJ hi];have:=zJ (k:=k) (s:=s) hi (ks:=r) (p:=p++[Tr.I (.a id kd w f q ks)]) (a:=a++[Tr.I (.a id kd w f q ks)]) (by rw[aK];exact h)
  rwa [aK,aa]at this
structure N1(h:S1)(d:Nat->Prop)(c:Nat):Prop where
 e:∀i,d i->∃v:Nat,h[i]?=some (v:Int)/\1<=v/\v<=c
 inj:∀i j,d i->d j->h[i]?=h[j]? ->i=j
theorem N1.I{h:S1}{d:Nat->Prop}{c:Nat}(x:N1 h d c)(hi:i<h.length):N1 (h.set i ((c:Int)+1)) (λj=>j=i\/d j) (c+1):=by
 have e0:(h.set i ((c:Int)+1))[i]?=some (((c+1:Nat)):Int):=bJ hi;have e1:∀{j},j≠i->(h.set i ((c:Int)+1))[j]?=h[j]? :=λn=>bG (gE n)
 have no:∀{j},d j->h[j]? ≠some (((c+1:Nat)):Int):=λhj hh=>by obtain⟨v,h1,h2,h3⟩:=x.e _ hj;rw[h1]at hh;cases hh;exact YO [.a (.a ja aU) ja] rfl h3
 refine⟨λj hj=>?_,λa b ha hb Ad=>?_⟩
 .by_cases q:j=i
  .subst q;exact⟨c+1,e0,gU ..,aH _⟩
  .rw[e1 q];obtain⟨v,h1,h2,h3⟩:=x.e j (hj.resolve_left q);exact⟨v,h1,h2,dQ h3⟩
 .by_cases q:a=i<;>by_cases w:b=i
  .exact q.trans w.symm
  .subst q;rw[e0,e1 w]at Ad;exact absurd Ad.symm (no (hb.resolve_left w))
  .subst w;rw[e0,e1 q]at Ad;exact absurd Ad (no (ha.resolve_left q))
  .rw[e1 q,e1 w]at Ad;exact x.inj a b (ha.resolve_left q) (hb.resolve_left w) Ad
structure NZ(t:Tr)(h:S1):Prop where
 a:∀x∈t.V,∃v:Nat,h[x.c']?=some (v:Int)/\1<=v
 inj:∀x∈t.V,∀y∈t.V,h[x.c']?=h[y.c']? ->x.c'=y.c'
theorem p9:∀l:List Tr,l.length<=iN l
 |[]=>aH _
 |x::l=>by have t9:=p9 l;have:=Ql x;show l.length+1<=x.O+iN l;exact ri (.a ja aU) (.a jb jc) [.a ja jc,.f (.a jd aU) jb] rfl t9 this
theorem vW{α:Type}{f:α->PV}{b:List α}{x:α}:((b++[x]).map f).getLast?=some (f x):=by rw[aD];exact xy
theorem vX{α:Type}{f:α->PV}{b:List α}{x:α}:((b++[x]).map f).dropLast=b.map f:=by rw[aD];exact g5
theorem A5{α:Type}{f:α->PV}{b:List α}{x:α}:(0:Int)<(((b++[x]).map f).length:Nat):=by rw[ao,aa];exact u6.mpr (pC _)
def wT(cl:CL):XV:=bU (gJ 3 (oJ cl (bx 1) 37 d9)) (bU (TU 2 .a (bN (.d 1))) (bU (o7 (bx 3) 5 (bx 2)) (bU (uS 1 (xr .a (bx 1) (sI false (vK (bx 4) (.inl 4) (fT (bx 3) 2) (IM (bx 4) true))))) eG)))
def NuL(n:Nat)(pm:V6)(rg:V5)(k:KP)(t:Tr)(N:Nat)(r:PV)(f:Nat):Prop:=∀{st:List Tr}{h:S1}{c:Nat}{a3:S7}{d:Nat->Prop},iN st<f->iN st<50000->h.length=N->(∀x∈qS st,x.c'<N)->N1 h d c->(∀x∈t.V,d x.c'\/x∈qS st)->
  ee (jG .d (XA .a (bx 1)) (bN (.d 0))) (wT (av n)) f [some (.a r),some (.b 0 0),some (.a (.d c)),a3,none] ⟨pm,[.a (st.map Tr.I)]::rg,h⟩ (λfl loc s=>fb fl (eF k .a loc s) (eF k fl loc s))
theorem LA{t:Tr}{N:Nat}{r:PV}(K:∀h,h.length=N->NZ t h->k .h ⟨pm,rg,h⟩)(f:Nat):NuL n pm rg k t N r f:=by
 induction f with
 |zero=>exactλ{st h c a3 d} hf h5 hl hi I Zb=>absurd hf (jn _)
 |succ f ih=>
  intro st h c a3 d hf h5 hl hi I Zb;rcases mV st with rfl|⟨b,x,rfl⟩
  .have cv:∀x∈t.V,d x.c':=λx hx=>(Zb x hx).resolve_right (λh=>nomatch h)
   exact K h hl ⟨λx hx=>(I.e _ (cv x hx)).imp λv h=>⟨h.1,h.2.1⟩,λx hx y hy=>I.inj _ _ (cv x hx) (cv y hy)⟩
  .rw[mY]at *
   obtain⟨id,kd,w,g,p,ks⟩:=x;have ea:qS (b++[.a id kd w g p ks])=qS b++ .a id kd w g p ks::qS ks.I:=by rw[wg];exact congrArg (qS b++ ·) ((az _).trans (ci _))
   rw[ea]at hi Zb
   rw[nt]at hf h5
   have s1:iN [Tr.a id kd w g p ks]=ks.O+1:=rfl;have sk:=rC ks;have sl:=p9 (b++ks.I);have sa:=nt b ks.I;have nx:id<h.length:=by rw[hl];exact hi _ (bw _ aj)
   refine kL (decide_eq_true A5) (cG vW ?_);rw[vX];refine Yh (show(true&&Nat.blt id h.length)=true from Nat.blt_eq.mpr nx) (dP (show ks.J.length<=100000 by have:=vq ks;exact ri ja aX [.b (.a jb jc) aI,.e jc (.a jd aU),.a ja jd] rfl h5 s1 this) (zJ (p:=[]) (show(4:Nat)<5 by decide) ?_))
   have e:b.map Tr.I++ks.I.map Tr.I=(b++ks.I).map Tr.I:=(aD ..).symm;refine dP (show(b.map Tr.I).length+(ks.I.map Tr.I).length<=100000 by rw[<-aa,e,ao];exact jL6 ja aX [.b (.a jb jc) aI,.e jc (.a jd aU),.a je jd,.a ja jf,.f jf (.a jb je)] rfl h5 s1 sk sl sa) ?_
   show ee _ _ f [some (.a r),some (.b 0 0),some (.a (.d (c+1))),some (.a (Tr.I (.a id kd w g p ks))),none] ⟨pm,[.a (b.map Tr.I++ks.I.map Tr.I)]::rg,h.set id (c+1)⟩ _;rw[e];refine ih (by exact jT6 ja jb [.b (.a jc jd) (.a jb aU),.e jd (.a je aU),.a jf je,.f ja (.a jc jf)] rfl hf s1 sk sa) (by exact Oe ja aI [.b (.a jb jc) aI,.e jc (.a jd aU),.a je jd,.f ja (.a jb je)] rfl h5 s1 sk sa) ((List.length_set ..).trans hl) (λx hx=>hi x ?_) (I.I nx) λx hx=>?_
   .rw[wg]at hx
    exact(aS.mp hx).elim (b9 _) λh=>bw _ (af _ h)
   .rw[wg,aS];rcases Zb x hx with h|h
    .exact .inl (.inr h)
    .rcases aS.mp h with h|h
     .exact .inr (.inl h)
     .rcases aF.mp h with rfl|h
      .exact .inl (.inl rfl)
      .exact .inr (.inr h)
theorem Lz{t:Tr}{h0:S1}(hs:t.O<50000)(hi:∀x∈t.V,x.c'<h0.length)(K:∀h,h.length=h0.length->NZ t h->k .h ⟨pm,rg,h⟩):av (n+1) 75 [.a t.I] ⟨pm,rg,h0⟩ k:=in_w<|LA (r:=t.I) (c:=0) (d:=λJ=>False) (st:=[t]) K 50000 hs hs rfl (by rw[show qS [t]=t.V from az _];exact hi) ⟨λJ h=>h.elim,λJ J h=>h.elim⟩ λx hx=>.inr (by rw[show qS [t]=t.V from az _];exact hx)
abbrev aac:=List Tr

mutual
inductive Sm
 |D (i:Nat) (p:Int) (v:aao)
 |L (i j:Nat) (p:Int)
 |E (i:Nat) (p:Int)
 |C (i c g:Nat) (p:Int) (w:V8)
 |M (i f l b r v:Nat) (p:Int)
 |B (i q:Nat) (p:Int) (c:Bool) (b:Bk)
 |o (i q:Nat) (p:Int) (lT:V8) (y z:Bk)
inductive Bk
 |mk (i:Nat) (p:Int) (ss:Ss)
inductive Ss
 |g
 |c (s:Sm) (r:Ss)
end
noncomputable abbrev eS:PV:=.k ""
noncomputable abbrev oN(i:Nat)(p:Int)(kind:Int)(w:PV)(Yb:Ks):Tr:=.a i kind w 0 p Yb
noncomputable def pW:V8->PV
 |none=>.k "plain"
 |some true=>.k "never"
 |some false=>.k "late"
noncomputable def qX:V8->Int
 |none=>8
 |some true=>4
 |some false=>5
noncomputable def wa:Bool->V8
 |true=>some true
 |false=>none
abbrev X0(i:Nat)(p:Int):Tr:=oN i p 1 (.d 0) .a
def Ua(p:Int)(v:aao):Ks:=match v with
 |some x=>.b (X0 x.1 (p+1)) .a
 |none=>.c .a
mutual
def Sm.I:Sm->Tr
 |.D i p v=>oN i p 52 eS (Ua p v)
 |.L i j p=>oN i p 56 eS (.b (oN j (p+1) 8 (.k "x") .a) .a)
 |.E i p=>oN i p 53 eS .a
 |.C i c g p w=>oN i p 43 eS (.b (oN c p 18 (pW w) (.b (oN g p 8 (.k "g") .a) .a)) .a)
 |.M i f l b r v p=>oN i p 43 eS (.b (.a f 27 eS 4 p (.c (.b (oN l p 71 eS .a) (.c (.b (oN b p 59 eS (.b (oN r p 52 eS (.b (X0 v p) .a)) .a)) .a))))) .a)
 |.B i q p c b=>oN i p 45 eS (.b (oN q p (qX (wa c)) (.k "c") .a) (.b b.I .a))
 |.o i q p lT y z=>oN i p 44 eS (.b (oN q p (qX lT) (.k "c") .a) (.b y.I (.b z.I .a)))
def Bk.I:Bk->Tr
 |.mk i p ss=>oN i p 59 eS ss.I
def Ss.I:Ss->Ks
 |.g=>.a
 |.c s r=>.b s.I r.I
end
mutual
noncomputable def Sm.d':Sm->Nat
 |.B _ _ _ _ b=>b.d'+1
 |.o _ _ _ _ y z=>max y.d' z.d'+1
 |_=>1
noncomputable def Bk.d':Bk->Nat
 |.mk _ _ ss=>ss.O+1
noncomputable def Ss.O:Ss->Nat
 |.g=>0
 |.c s r=>max s.d' r.O
end
noncomputable def qO(x y:Bool×Bool):Bool×Bool:=(x.1&&y.1,x.2||(x.1&&y.2))
mutual
def Sm.i'(b:Bool):Sm->Bool×Bool
 |.D .. =>(false,false)
 |.L .. =>(false,false)
 |.E .. =>(false,true)
 |.C _ _ _ _ w=>(!(b&&w==some true),false)
 |.M .. =>(true,false)
 |.B _ _ _ c y=>(!c||(y.e' b).2,false)
 |.o _ _ _ lT y z=>(match lT with
  |none=>((y.e' b).1||(z.e' b).1,(y.e' b).2||(z.e' b).2)
  |some true=>y.e' b
  |some false=>z.e' b)
def Bk.e'(b:Bool):Bk->Bool×Bool
 |.mk _ _ ss=>ss.d' b
def Ss.d'(b:Bool):Ss->Bool×Bool
 |.g=>(true,false)
 |.c s r=>qO (s.i' b) (r.d' b)
end
noncomputable def jx(x:Bool×Bool):Int:=(if x.1 then 1 else 0)+(if x.2 then 2 else 0)
theorem WD(x:Bool×Bool):(Builtin.bitAnd (jx x) 1==1)=x.1:=by obtain⟨a,b⟩:=x;induction a<;>induction b<;>rfl
theorem Wz(x:Bool×Bool):(Builtin.bitAnd (jx x) 2==2)=x.2:=by obtain⟨a,b⟩:=x;induction a<;>induction b<;>rfl
theorem Gu(x y:Bool×Bool):Builtin.bitOr (jx x) (jx y)=jx (x.1||y.1,x.2||y.2):=(by decide:∀a b c d:Bool,Builtin.bitOr (jx (a,b)) (jx (c,d))=jx (a||c,b||d)) x.1 x.2 y.1 y.2
theorem MO(x:Bool×Bool):Builtin.bitAnd (jx x) 2=jx (false,x.2):=by obtain⟨a,b⟩:=x;induction a<;>induction b<;>rfl
theorem Ll(x:Bool×Bool):qO x (true,false)=x:=by obtain⟨a,b⟩:=x;induction a<;>induction b<;>rfl
theorem Lj(x:Bool×Bool):qO (true,false) x=x:=by obtain⟨a,b⟩:=x;induction a<;>induction b<;>rfl
theorem Hj(x y z:Bool×Bool):qO x (qO y z)=qO (if x.1 then(false||y.1,x.2||y.2)else x) z:=(by decide:∀a b c d e f:Bool,qO (a,b) (qO (c,d) (e,f))=qO (if a then(false||c,b||d)else(a,b)) (e,f)) x.1 x.2 y.1 y.2 z.1 z.2
theorem AI(n a b:Nat):∃m,n+max a b=m+a:=Nat.exists_eq_add_of_le' (aA (Nat.le_max_left ..) (gU ..))
theorem AH(n a b:Nat):∃m,n+max a b=m+b:=Nat.exists_eq_add_of_le' (aA (Nat.le_max_right ..) (gU ..))
variable{b:Bool}
abbrev Ud(cl:CL):XV:=bU (um (jG .a (xr .b (bx 2) (bN (.d 1))) (bN (.d 1))) (bU (gJ 2 (xr .d (xr .b (bx 2) (bN (.d 2))) (tE cl 85 (bO (bx 3) (bO (bx 1) d9))))) eG) eG) eG
def OuW(b:Bool)(o:Bool×Bool)(d:Nat)(t:PV):Prop:=∀⦃n:Nat⦄ ⦃s:St⦄ ⦃k:KP⦄,k (.d (jx o)) s->av (n+d) 85 [.a t,.a (.g b)] s k
def OuS(b:Bool)(o:Bool×Bool)(d:Nat)(v:S3):Prop:=∀⦃n:Nat⦄ ⦃s:St⦄ ⦃k:KX⦄ ⦃p:S3⦄ ⦃x:Bool×Bool⦄ ⦃a0:PV⦄ ⦃a3:S7⦄,(∀a3,k .a [some (.a a0),some (.a (.g b)),some (.a (.d (jx (qO x (o))))),a3,none] s)->
  forLoop (.inl 3) (.a (p++v)) (Ud (av (n+d))) (v.length+1) p.length [some (.a a0),some (.a (.g b)),some (.a (.d (jx x))),a3,none] s k
mutual
theorem Sm.o':∀m:Sm,OuW b (m.i' b) m.d' m.I.I
 |.D _ _ _=>λn s k K=>in_w K
 |.L _ _ _=>λn s k K=>in_w K
 |.E _ _=>λn s k K=>in_w K
 |.C i c g p w=>λn s k K=>in_w (by induction b<;>(first|exact K|(obtain _|_|_:=w<;>exact K)))
 |.M .. =>λn s k K=>in_w (by induction b<;>exact K)
 |.B i q p false y=>λn s k K=>in_w K
 |.B i q p true y=>λn s k K=>in_w (by
   have g:av (n+y.d') 85 [.a y.I.I,.a (.g b)] (s.I ([]:: ·)) (λv t=>tF .b (.a v) (.a (.d 2)) t λu t=>AL .a u (.a (.d 2)) t λc=>tb (some c) (k (.d 0) (t.I List.tail)) (k (.d 1) (t.I List.tail))):=by
    refine Bk.g' y ?_;show tb (some (Builtin.bitAnd (jx (y.e' b)) 2==2)) (k (.d 0) s) (k (.d 1) s);rw[Wz];have K':k (.d (jx ((y.e' b).2,false))) s:=K
    induction z:(y.e' b).2<;>rw[z]at K'<;>exact K'
   exact g)
 |.o i q p (some true) y z=>λn s k K=>in_w (by obtain⟨m,e⟩:=AI n y.d' z.d';show ny (av (n+max y.d' z.d')) 85 _ _ _;rw[e];exact Bk.g' y K)
 |.o i q p (some false) y z=>λn s k K=>in_w (by obtain⟨m,e⟩:=AH n y.d' z.d';show ny (av (n+max y.d' z.d')) 85 _ _ _;rw[e];exact Bk.g' z K)
 |.o i q p none y z=>λn s k K=>in_w (by
   obtain⟨m,e⟩:=AI n y.d' z.d';obtain⟨m',e'⟩:=AH n y.d' z.d';have K':k (.d (jx ((y.e' b).1||(z.e' b).1,(y.e' b).2||(z.e' b).2))) s:=K;show ny (av (n+max y.d' z.d')) 85 _ _ _;have hy:=λs k K=>e▸Bk.g' y (n:=m) (s:=s) (k:=k) K
   have hz:=λs k K=>e'▸Bk.g' z (n:=m') (s:=s) (k:=k) K
   refine hy _ _ ?_;refine hz _ _ ?_;show k (.d (Builtin.bitOr (jx (y.e' b)) (jx (z.e' b)))) s;rw[Gu];exact K')
theorem Bk.g':∀m:Bk,OuW b (m.e' b) m.d' m.I.I
 |.mk i p ss=>λn s k K=>in_w (by show forLoop (.inl 3) (.a ss.I.J) (Ud (av (n+ss.O))) _ _ _ _ _;show forLoop (.inl 3) (.a ss.I.J) (Ud (av (n+ss.O))) (ss.I.J.length+1) 0 [some (.a (Tr.I (.a i 59 eS 0 p ss.I))),some (.a (.g b)),some (.a (.d (jx (true,false)))),none,none] (s.I ([]:: ·)) _;exact Ss.i' ss (p:=[]) λJ=>(by rw[Lj];exact K))
theorem Ss.i':∀m:Ss,OuS b (m.d' b) m.O m.I.J
 |.g=>λn s k p x a0 a3 K=>cG (o:=some _) rfl (w7 pK (by have:=K a3;rwa [show Ss.d' b .g=(true,false)from rfl,Ll]at this))
 |.c m r=>λn s k p x a0 a3 K=>cG (o:=some _) rfl (uh (a:=m.I.I) nE (by
   obtain⟨u,e⟩:=AI n m.d' r.O;obtain⟨v,e'⟩:=AH n m.d' r.O;have ih:=λx=>Ss.i' r (n:=v) (s:=s) (k:=k) (p:=p++[m.I.I]) (x:=x) (a0:=a0) (a3:=some (.a m.I.I))
   rw[aK,aa,<-e']at ih
   have K':∀a3,k .a [some (.a a0),some (.a (.g b)),some (.a (.d (jx (qO x (qO (m.i' b) (r.d' b)))))),a3,none] s:=K;rw[Hj]at K'
   have go:=ih _ K';show tb (some (Builtin.bitAnd (jx x) 1==1)) (forLoop _ _ _ _ _ [some (.a a0),some (.a (.g b)),some (.a (.d (jx x))),some (.a m.I.I),none] s k)
    (av (n+max m.d' r.O) 85 [.a m.I.I,.a (.g b)] s λv s=>tF .d (.a (.d (Builtin.bitAnd (jx x) 2))) (.a v) s λz s=>forLoop _ _ _ _ _ [some (.a a0),some (.a (.g b)),some z,some (.a m.I.I),none] s k)
   rw[WD];induction h:x.1
   .rw[h]at go;exact go
   .rw[h]at go
    rw[e];refine Sm.o' m ?_;show forLoop _ _ _ _ _ [some (.a a0),some (.a (.g b)),some (.a (.d (Builtin.bitOr (Builtin.bitAnd (jx x) 2) (jx (m.i' b))))),some (.a m.I.I),none] s k;rw[MO,Gu];exact go))
end

structure GN where
 b:Int
 a:S5
 d:PV
 c:PV
noncomputable def ck(i:Nat):PV:=.d (i:Int)
noncomputable def GN.J(g:GN):PV:=.d g.b
def GN.I(g:GN):S3:=g.a.map ck
def fg(f:Fc)(gs:List GN):Fc:= {f with m:=gs.map GN.J,d:=gs.map GN.I,l:=gs.map GN.d,n:=gs.map GN.c}
variable{f:Fc}{cr:V6}{gs:List GN}
abbrev SG(d:ah)(X:S3)(f:Fc)(gs:List GN)(rg:V5)(ni:S1):St:=S4 d X (fg f gs).I rg ni
theorem qo{ps:S5}{ex:PV}(hc:cr[i]?=some (.a (ps.map ck)))(hl:gs.length<90000)(K:k (.d gs.length) (SG d X f (gs++[⟨kind,ps,nd,ex⟩]) (cr.set i .d::rg) ni)):
  av (n+1) 26 [.a (.e 6),.a (.d kind),.b 0 i,.a nd,.a ex] (SG d X f gs (cr::rg) ni) k:=by
 have l:∀{α:Type}{h:GN->α},(gs.map h).length<100000:=by intros;rw[ao];exact fJ ja aX [.b ja br] rfl hl
 apply in_w;refine dP l ?_;refine cG (o:=cr[i]?) hc ?_;refine dP l (dP l (dP l ?_));show k (.d ((((gs.map GN.J++[PV.d kind]).length:Nat):Int)-1)) (S4 d X (Fc.I {f with m:=gs.map GN.J++[PV.d kind],d:=gs.map GN.I++[ps.map ck],l:=gs.map GN.d++[nd],n:=gs.map GN.c++[ex]}) (cr.set i .d::rg) ni)
 have e:(((gs.map GN.J++[PV.d kind]).length:Nat):Int)-1=gs.length:=by rw[aa,ao];exact Int.add_sub_cancel (gs.length:Int) 1
 unfold SG fg at K
 rw[aD,aD,aD,aD]at K
 rw[e];exact K
structure Fe(ni:S1)(g:GN):Prop where
 a:g.b≠8
 b:g.b=7->∃id vs v,g.d=.l id vs/\ni[id]?=some v/\(g.c=.f []\/g.c=.f [.d 1])
noncomputable def Y9:PV->Bool
 |.f []=>true
 |_=>false
def bk(B:PV->Bool)(g:GN):Bool:=decide (g.b=7)&&(Y9 g.c&&B g.d)
noncomputable def NB(ni:S1)(N:Int->Bool):PV->Bool
 |.l id _=>match ni[id]? with
  |some v=>N v
  |none=>false
 |_=>false
theorem qt{α β:Type}{h:α->β}{l:List α}{x:Nat}{a:α}(e:l[x]?=some a):(l.map h)[x]?=some (h a):=by rw[dR,e];rfl
theorem Ii{x:Nat}{g:GN}{nv:PV}{N:Int->Bool}(hN:∀v rg,tu (SG d X f gs rg ni) (.d v) (.a nv)=some (N v))(hx:gs[x]?=some g)(ok:Fe ni g)(K:k (.g (bk (NB ni N) g)) (SG d X f gs rg ni)):
  av (n+2) 29 [.a (.e 6),.a (.d x),.a (.m 6 [nv,eD])] (SG d X f gs rg ni) k:=by
 refine in_w<|cG (o:=(gs.map GN.J)[x]?) (qt hx) ?_;show tb (some (g.b==7)) _ _;by_cases h7:g.b=7
 .obtain⟨id,vs,v,e1,e2,e3⟩:=ok.b h7;have K':k (.g (Y9 g.c&&N v)) (SG d X f gs rg ni):=by
   have:bk (NB ni N) g=(Y9 g.c&&N v):=by unfold bk;rw[decide_eq_true h7,e1];show(true&&(Y9 g.c&&match ni[id]? with|some v=>N v|none=>false))=_;rw[e2];rfl
   rw[this]at K;exact K
  refine kL (beq_iff_eq.mpr h7) (cG (o:=(gs.map GN.c)[x]?) (qt hx) ?_);rcases e3 with e|e
  .rw[e]at K'⊢
   refine cG (o:=(gs.map GN.d)[x]?) (qt hx) ?_;rw[e1];refine in_w<|cG (o:=ni[id]?) e2 ?_;refine cG (o:=tu _ (.d v) (.a nv)) (hN v _) ?_;exact K'
  .rw[e]at K'⊢;exact K'
 .refine fW (beq_eq_false_iff_ne.mpr h7) ?_;refine fW (b:=g.b==8) (beq_eq_false_iff_ne.mpr ok.a) ?_;unfold bk at K
  rw[decide_eq_false h7]at K;exact K
abbrev V7:=List GN

variable{g:GN}{a:V7}{e:V7}
noncomputable def j9(gs:V7)(fl:S5):V7×Nat:=if(fl.filter (0< ·)).length<2 then(gs,(fl.filter (0< ·)).headD 0)else(gs++[⟨2,fl.filter (0< ·),.h,.f []⟩],gs.length)
theorem qa{fl:S5}(hl:gs.length<90000)(hf:fl.length<=90000)(K:k (.d (j9 gs fl).2) (SG d X f (j9 gs fl).1 rg ni)):av (n+2) 83 [.a (.e 6),.a (.j (fl.map ck))] (SG d X f gs rg ni) k:=by
 apply in_w;refine dP (p:=(fl.map ck).length<=100000) (by rw[ao];exact kQ ja aX [.a ja br] rfl hf) ?_
 refine(?_ :∀q,q=fl.length->compLoop (.inl 3) (.a (fl.map ck)) (jG .d (bx 3) (bN (.d 0))) (bx 3) _ (q+1) _ _ _ _) _ (ao ..);rintro q rfl;refine FF (f:=ck) (0< ·) (S:=SG d X f gs ([]::rg) ni) (λJ=>rfl) rfl ?_ λv hv q hq=>?_
 rotate_left
 .show tb (some (decide ((v:Int)>0))) (q [] _) (q [ck v] _);refine nu (p:=0<v) (by rw[decide_eq_true_iff];exact u6) (λh=>?_) λh=>?_
  .rw[decide_eq_false h]at hq;exact hq
  .rw[decide_eq_true h]at hq;exact hq
 unfold j9 at K
 have fl':=mU (0< ·) fl;generalize fl.filter (0< ·)=L at *
 refine nu (b:=decide ((((L.map ck).length:Nat):Int)<2)) (p:=L.length<2) (by rw[decide_eq_true_iff,ao];exact dK) (λh=>?_) λh=>?_
 .rw[if_neg h]at K
  exact qo (cr:=[.a (L.map ck)]) (i:=0) rfl hl K
 .rw[if_pos h]at K
  refine dP (p:=(L.map ck).length+1<=100000) (by rw[ao];exact mK (.a ja aU) aX [.a jb br,.a ja jb] rfl hf fl') ?_
  induction L using aQ<;>exact K

noncomputable def gR(rg:V5)(e i:Nat):Option ah:=rg[e]?.bind (·[i]?)
theorem vI:∀{rg:V5}{e i:Nat}{c c':ah},gR rg e i=some c->gR (eV rg e i c') e i=some c'
 |[],_,_,_,_,h=>nomatch h
 |r::rg,0,i,c,c',h=>bJ (aL.mp h).1
 |r::rg,e+1,i,c,c',h=>vI (rg:=rg) h
theorem o9{c c':ah}:∀{rg:V5}{e:Nat},eV (eV rg e i c) e i c'=eV rg e i c'
 |[],_=>rfl
 |r::rg,0=>congrArg (· ::rg) (List.set_set ..)
 |r::rg,e+1=>congrArg (r:: ·) (o9 (rg:=rg))
theorem fV{c:ah}:∀{rg:V5}{e:Nat},gR rg e i=some c->eV rg e i c=rg
 |[],_,h=>nomatch h
 |r::rg,0,h=>congrArg (· ::rg) (by obtain⟨h1,h2⟩:=aL.mp h;rw[<-h2];exact List.set_getElem_self h1)
 |r::rg,e+1,h=>congrArg (r:: ·) (fV (rg:=rg) h)
structure jq where
 a:V7
 b:Nat
 o:S5
noncomputable def gH(gs:V7)(kind:Int)(now:Nat)(nd ex:PV):V7:=gs++[⟨kind,[now],nd,ex⟩]
noncomputable def tG(gs:V7)(l y:Nat):V7:=if 0<y then(match gs[l]? with|some g=>gs.set l {g with a:=g.a++[y]}|none=>gs)else gs
def cS(gs:V7)(now:Nat)(lT:V8)(q:PV):V7×Nat×Nat:=match lT with
 |none=>(gH (gH gs 5 now q (.f [])) 6 now q (.f []),gs.length,gs.length+1)
 |some true=>(gH gs 5 now q (.f []),gs.length,0)
 |some false=>(gH gs 6 now q (.f []),0,gs.length)
abbrev dM(q:Nat)(p:Int)(lT:V8):PV:=(oN q p (qX lT) (.k "c") .a).I
abbrev jQ(c g:Nat)(p:Int)(w:V8):PV:=(oN c p 18 (pW w) (.b (oN g p 8 (.k "g") .a) .a)).I
mutual
def Sm.V:Sm->jq->jq
 |.D ..,x=> {x with b:=0}
 |.L ..,x=> {x with b:=0}
 |.E ..,x=>if x.b=0 then x else⟨x.a,0,x.o++[x.b]⟩
 |.C _ c g p w,x=>if x.b=0 then x else match w with
  |some false=>⟨gH x.a 7 x.b (jQ c g p w) (.f [.d 1]),x.a.length,x.o⟩
  |w=>⟨gH (gH x.a 7 x.b (jQ c g p w) (.f [.d 1])) 7 x.a.length (jQ c g p w) (.f []),x.a.length+1,x.o⟩
 |.M ..,x=>x
 |.B _ q p c b,x=>if x.b=0 then x else
   let a:=cS (gH x.a 3 x.b .h (.f [])) x.a.length (wa c) (dM q p (wa c))
   let y:=b.V ⟨a.1,a.2.1,[]⟩
   let j:=j9 (tG y.a x.a.length y.b) (a.2.2::y.o)
   ⟨j.1,j.2,x.o⟩
 |.o _ q p lT y z,x=>if x.b=0 then x else
   let a:=cS x.a x.b lT (dM q p lT)
   let y:=y.V ⟨a.1,a.2.1,x.o⟩
   let z:=z.V ⟨y.a,a.2.2,y.o⟩
   let j:=j9 z.a [y.b,z.b]
   ⟨j.1,j.2,z.o⟩
def Bk.V:Bk->jq->jq
 |.mk _ _ ss,x=>if x.b=0 then x else ss.c' x
def Ss.c':Ss->jq->jq
 |.g,x=>x
 |.c s r,x=>r.c' (s.V x)
end

mutual
noncomputable def Sm.g':Sm->Nat
 |.B _ _ _ _ b=>b.c'+1
 |.o _ _ _ _ y z=>y.c'+z.c'+1
 |_=>1
noncomputable def Bk.c':Bk->Nat
 |.mk _ _ ss=>ss.J
noncomputable def Ss.J:Ss->Nat
 |.g=>0
 |.c s r=>s.g'+r.J
end
def ru(n:Nat)(a b:V7):Prop:=∃e,b=a++e/\e.length<=n
theorem ru.k':ru n a a:=⟨[],(az _).symm,bI _⟩
theorem ru.g'{b c:V7}:ru n a b->ru m b c->ru (n+m) a c
 |⟨e,h,l⟩,⟨e',h',l'⟩=>⟨e++e',by rw[h',h,aK],by rw[aa];exact jV l l'⟩
theorem ru.j'{b:V7}:ru n a b->n<=m->ru m a b
 |⟨e,h,l⟩,h'=>⟨e,h,aA l h'⟩
theorem ru.i'{b:V7}:ru n a b->b.length<=a.length+n
 |⟨e,h,l⟩=>by rw[h,aa];exact bY l _
theorem jZ{ex:PV}:ru 1 gs (gH gs kind now nd ex):=⟨_,rfl,aH _⟩
theorem BF{fl:S5}:ru 1 gs (j9 gs fl).1:=by
 unfold j9;split
 .exact .k'
 .exact⟨_,rfl,aH _⟩
theorem kW{q:PV}:∀{lT:V8},ru 2 gs (cS gs now lT q).1
 |none=>jZ.g' jZ
 |some true=>jZ.j' (bL _)
 |some false=>jZ.j' (bL _)
theorem zN{y:Nat}:tG (gs++g::e) gs.length y=gs++ {g with a:=if 0<y then g.a++[y]else g.a}::e:=by
 unfold tG;split
 .rw[bP (aH _),iY];show(gs++g::e).set gs.length _=_;rw[List.set_append_right _ _ (aH _),iY];rfl
 .rfl
structure Aj(x y:jq)(n:Nat):Prop where
 g:ru (4*n) x.a y.a
 o:y.o.length<=x.o.length+n
theorem Aj.I{x y:jq}(hg:y.a=x.a)(ho:y.o=x.o):Aj x y n:=⟨hg▸ .k',ho▸cB ..⟩
theorem Aj.J{x y z:jq}(a:Aj x y n)(b:Aj y z m):Aj x z (n+m):=⟨(a.g.g' b.g).j' (bZ (Nat.mul_add ..).symm),aA b.o (by rw[<-dZ];exact cN a.o m)⟩
theorem uY{g2:V7}(h:ru n (gH gs 3 now .h (.f [])) g2):∃e,g2=gs++⟨3,[now],.h,.f []⟩::e/\e.length<=n:=by obtain⟨e,h,l⟩:=h;exact⟨e,by rw[h];exact aK ..,l⟩
mutual
theorem Sm.k':∀(m:Sm)(x:jq),Aj x (m.V x) m.g'
 |.D ..,x=>.I rfl rfl
 |.L ..,x=>.I rfl rfl
 |.E ..,x=>by
  show Aj x (if x.b=0 then x else⟨x.a,0,x.o++[x.b]⟩) 1
  split
  .exact .I rfl rfl
  .exact⟨.k',bZ aa⟩
 |.C _ c g p w,x=>by
  show Aj x (if x.b=0 then x else _) 1
  split
  .exact .I rfl rfl
  .obtain _|_|_:=w
   .exact⟨(jZ.g' jZ).j' (by decide),cB ..⟩
   .exact⟨jZ.j' (by decide),cB ..⟩
   .exact⟨(jZ.g' jZ).j' (by decide),cB ..⟩
 |.M ..,x=>.I rfl rfl
 |.B _ q p c b,x=>by
  show Aj x (if x.b=0 then x else _) (b.c'+1)
  split
  .exact .I rfl rfl
  .refine⟨?_,cB ..⟩;obtain⟨e,h,l⟩:=uY (kW.g' (b.f' ⟨(cS (gH x.a 3 x.b .h (.f [])) x.a.length (wa c) (dM q p (wa c))).1,(cS (gH x.a 3 x.b .h (.f [])) x.a.length (wa c) (dM q p (wa c))).2.1,[]⟩).g);refine ru.j' (ru.g' ?_ BF) (?_ :3+4*b.c'+1<=4*(b.c'+1))
   .show ru (3+4*b.c') x.a (tG (b.V _).a x.a.length (b.V _).b);rw[h,zN];exact⟨_,rfl,by rw[iL];exact mK (.a ja aU) (.a GC (.m 4 jb)) [.a ja (.a iH (.m 4 jb))] rfl l⟩
   .exact kQ (.a (.a GC (.m 4 ja)) aU) (.m 4 (.a ja aU)) [] rfl
 |.o _ q p lT y z,x=>by
  show Aj x (if x.b=0 then x else _) (y.c'+z.c'+1)
  split
  .exact .I rfl rfl
  .have h2:=y.f' ⟨(cS x.a x.b lT (dM q p lT)).1,(cS x.a x.b lT (dM q p lT)).2.1,x.o⟩;have h3:=z.f' ⟨(y.V ⟨(cS x.a x.b lT (dM q p lT)).1,(cS x.a x.b lT (dM q p lT)).2.1,x.o⟩).a,(cS x.a x.b lT (dM q p lT)).2.2,(y.V ⟨(cS x.a x.b lT (dM q p lT)).1,(cS x.a x.b lT (dM q p lT)).2.1,x.o⟩).o⟩;refine⟨(((kW.g' h2.g).g' h3.g).g' BF).j' (by exact mK (.a (.a (.a iH (.m 4 ja)) (.m 4 jb)) aU) (.m 4 (.a (.a ja jb) aU)) [] rfl),?_⟩
   have t9:=h2.o;have:=h3.o;show(z.V _).o.length<=_;exact TG ja (.a jb (.a (.a jc jd) aU)) [.a je (.a jb jc),.a ja (.a je jd)] rfl t9 this
theorem Bk.f':∀(m:Bk)(x:jq),Aj x (m.V x) m.c'
 |.mk _ _ ss,x=>by
  show Aj x (if x.b=0 then x else _) ss.J
  split
  .exact .I rfl rfl
  .exact ss.m' x
theorem Ss.m':∀(m:Ss)(x:jq),Aj x (m.c' x) m.J
 |.g,x=>.I rfl rfl
 |.c s r,x=>(s.k' x).J (r.m' _)
end
structure Jc(x:jq)(n:Nat):Prop where
 g:x.a.length+4*n<=50000
 o:x.o.length+n<=50000
def lP(d:ah)(X:S3)(f:Fc)(ni:S1)(n:Nat)(t:PV)(z:Nat)(F:jq->jq):Prop:=
 ∀{x:jq}{rg:V5}{e i:Nat}{k:KP},gR rg e i=some (.a (x.o.map ck))->Jc x z->k (.d (F x).b) (SG d X f (F x).a (eV rg e i (.a ((F x).o.map ck))) ni)->
  av n 84 [.a (.e 6),.a t,.a (ck x.b),.b e i] (SG d X f x.a rg ni) k
theorem qR{v:Nat}{x y:Prop}(h:v≠0)(hx:x):tb (some ((v:Int)==0)) x y:=fW (by rw[beq_eq_false_iff_ne];exactλe=>h (za.mp e)) hx
theorem Jc.I{x:jq}(h:Jc x (z+1)):x.a.length<49998:=by have:=h.g;exact fh ja uU [.a (.a ja (.m 4 (.a jb aU))) aI] rfl this
theorem jM{t:PV}{F:jq->jq}(h0:∀x,x.b=0->F x=x)(h:∀{x:jq}{rg:V5}{e i:Nat}{k:KP},x.b≠0->gR rg e i=some (.a (x.o.map ck))->Jc x z->k (.d (F x).b) (SG d X f (F x).a (eV rg e i (.a ((F x).o.map ck))) ni)->
  av n 84 [.a (.e 6),.a t,.a (ck x.b),.b e i] (SG d X f x.a rg ni) k)(hz:∀{gs:V7}{rg:V5}{e i:Nat}{k:KP},k (.d 0) (SG d X f gs rg ni)->av n 84 [.a (.e 6),.a t,.a (.d 0),.b e i] (SG d X f gs rg ni) k):lP d X f ni n t z F:=λ{x rg e i k} hg R K=>by
 by_cases hn:x.b=0
 .rw[h0 x hn,fV hg,hn]at K
  rw[hn];exact hz K
 .exact h hn hg R K
theorem Sk{x:jq}(h:x.b=0): {x with b:=0}=x:=by rw[<-h]
theorem Sm.y'{v:aao}:lP d X f ni (n+1) (Sm.D i p v).I.I 1 (Sm.D i p v).V:=jM (λx=>Sk) (λ{x rg e i k} h0 hg R K=>by
 have K':k (.d 0) (SG d X f x.a (eV rg e i (.a (x.o.map ck))) ni):=K;rw[fV hg]at K'
 exact in_w<|qR h0 K') λK=>in_w K
theorem Sm.x':lP d X f ni (n+1) (Sm.L i j p).I.I 1 (Sm.L i j p).V:=jM (λx=>Sk) (λ{x rg e i k} h0 hg R K=>by
 have K':k (.d 0) (SG d X f x.a (eV rg e i (.a (x.o.map ck))) ni):=K;rw[fV hg]at K'
 exact in_w<|qR h0 K') λK=>in_w K
theorem Sm.G'{f' l b r v:Nat}:lP d X f ni (n+1) (Sm.M i f' l b r v p).I.I 1 (Sm.M i f' l b r v p).V:=jM (λx J=>rfl) (λ{x rg e i k} h0 hg R K=>by
 have K':k (.d x.b) (SG d X f x.a (eV rg e i (.a (x.o.map ck))) ni):=K;rw[fV hg]at K'
 exact in_w<|qR h0 K') λK=>in_w K
theorem Sm.F':lP d X f ni (n+1) (Sm.E i p).I.I 1 (Sm.E i p).V:=jM (F:=(Sm.E i p).V) (λx h=>if_pos h) (λ{x rg e i k} h0 hg R K=>by
 have K':k (.d 0) (SG d X f x.a (eV rg e i (.a (x.o.map ck++[ck x.b]))) ni):=by
  rw[show Sm.V (.E ..) x=⟨x.a,0,x.o++[x.b]⟩from if_neg h0,aD]at K
  exact K
 refine in_w<|qR h0 ?_;refine cG (a:=.a) (show((gR rg e i).bind λc=>yo c.O (yo c.J (yo c.I (yo c.V none λJ=>some .b) λJ=>some .a) λJ=>some .a) λx=>nT x.1 10 x.2)=_ by rw[hg];rfl) ?_
 show ob (gR rg e i) λc=>yb c.J (ob c.I λeK=>_) λvs=>pb (.a (ck x.b)) λv=>gb (decide (vs.length<100000)) (k (.d 0) (SG d X f x.a (eV rg e i (.a (vs++[v]))) ni))
 rw[hg];exact dP (by have:=R.o;rw[ao];exact fJ ja aX [.a (.a ja aU) aI] rfl this) K') λK=>in_w K
theorem Sm.E'{c g:Nat}:∀{w:V8},lP d X f ni (n+2) (Sm.C j c g p w).I.I 1 (Sm.C j c g p w).V
 |some false=>jM (F:=(Sm.C j c g p (some false)).V) (λx h=>if_pos h) (λ{x rg e i k} h0 hg R K=>by
  rw[show Sm.V (.C j c g p (some false)) x=⟨gH x.a 7 x.b (jQ c g p (some false)) (.f [.d 1]),x.a.length,x.o⟩from if_neg h0,fV hg]at K
  exact in_w<|qR h0<|qo (cr:=[.a [ck x.b]]) (i:=0) (ps:=[x.b]) rfl (by have:=R.I;exact fJ ja br [.b ja uU] rfl this) K) λK=>in_w K
 |some true=>jM (F:=(Sm.C j c g p (some true)).V) (λx h=>if_pos h) (λ{x rg e i k} h0 hg R K=>by
  rw[show Sm.V (.C j c g p (some true)) x=⟨gH (gH x.a 7 x.b (jQ c g p (some true)) (.f [.d 1])) 7 x.a.length (jQ c g p (some true)) (.f []),x.a.length+1,x.o⟩from if_neg h0,fV hg]at K
  refine in_w<|qR h0<|qo (cr:=[.a [ck x.b]]) (i:=0) (ps:=[x.b]) rfl (by have:=R.I;exact fJ ja br [.b ja uU] rfl this) ?_
  refine qo (cr:=[.d,.a [ck x.a.length]]) (i:=1) (ps:=[x.a.length]) rfl (by rw[aa];have:=R.I;exact aR (Nat.add_lt_add_right this 1) (by decide)) ?_
  rw[aa];exact K) λK=>in_w K
 |none=>jM (F:=(Sm.C j c g p none).V) (λx h=>if_pos h) (λ{x rg e i k} h0 hg R K=>by
  rw[show Sm.V (.C j c g p none) x=⟨gH (gH x.a 7 x.b (jQ c g p none) (.f [.d 1])) 7 x.a.length (jQ c g p none) (.f []),x.a.length+1,x.o⟩from if_neg h0,fV hg]at K
  refine in_w<|qR h0<|qo (cr:=[.a [ck x.b]]) (i:=0) (ps:=[x.b]) rfl (by have:=R.I;exact fJ ja br [.b ja uU] rfl this) ?_
  refine qo (cr:=[.d,.a [ck x.a.length]]) (i:=1) (ps:=[x.a.length]) rfl (by rw[aa];have:=R.I;exact aR (Nat.add_lt_add_right this 1) (by decide)) ?_
  rw[aa];exact K) λK=>in_w K
theorem bb{b:V7}(h1:a.map GN.J=b.map GN.J)(h2:a.map GN.d=b.map GN.d)(h3:a.map GN.c=b.map GN.c):fg f a= {fg f b with d:=a.map GN.I}:=by unfold fg;rw[h1,h2,h3]
theorem WH{y:Nat}(Q:St->Prop)(hp:g.a.length<100000)(K:Q (SG d X f (gs++ {g with a:=if 0<y then g.a++[y]else g.a}::e) rg ni)):
  tb (some (decide ((y:Int)>0))) (Q (SG d X f (gs++g::e) rg ni)) (gb (decide (0<=(gs.length:Int)/\(gs.length:Int).toNat<((gs++g::e).map GN.I).length)) (ob ((gs++g::e).map GN.I)[(gs.length:Int).toNat]? λvs=>gb (decide (vs.length<100000)) (Q (S4 d X (Fc.I {fg f (gs++g::e)with d:=((gs++g::e).map GN.I).set (gs.length:Int).toNat (vs++[ck y])}) rg ni)))):=by
 refine nu (p:=0<y) (by rw[decide_eq_true_iff];exact u6) (λh=>?_) λh=>?_
 .rw[if_neg h]at K;exact K
 .rw[if_pos h]at K
  refine dP ⟨bC _,by rw[ao,aa];exact Nat.lt_add_of_pos_right (pC _)⟩ (cG (a:=g.I) (by show((gs++g::e).map GN.I)[gs.length]?=_;rw[dR,bP (aH _),iY];rfl) (dP (by rw[GN.I,ao];exact hp) ?_))
  have:((gs++g::e).map GN.I).set gs.length (g.I++[ck y])=(gs++ {g with a:=g.a++[y]}::e).map GN.I:=by
   rw[aD,aD,List.set_append_right _ _ (by rw[ao];exact aH _),ao,iY]
   show _++(g.I++[ck y])::e.map GN.I=_;rw[dD,GN.I,GN.I,aD];rfl
  show Q (S4 d X (Fc.I {fg f (gs++g::e)with d:=((gs++g::e).map GN.I).set gs.length (g.I++[ck y])}) rg ni)
  have e2:fg f (gs++ {g with a:=g.a++[y]}::e)= {fg f (gs++g::e)with d:=((gs++g::e).map GN.I).set gs.length (g.I++[ck y])}:=by rw[this];exact bb (aD.trans (aD (l₂:=g::e)).symm) (aD.trans (aD (l₂:=g::e)).symm) (aD.trans (aD (l₂:=g::e)).symm)
  rw[<-e2];exact K
abbrev nh(x:jq)(q:Nat)(p:Int)(c:Bool):V7×Nat×Nat:=cS (gH x.a 3 x.b .h (.f [])) x.a.length (wa c) (dM q p (wa c))
theorem Jc.J{x:jq}{q:Nat}{c:Bool}(R:Jc x (z+1)):Jc ⟨(nh x q p c).1,(nh x q p c).2.1,[]⟩ z:=⟨by have t9:=(jZ.g' kW:ru 3 x.a (nh x q p c).1).i';have:=R.g;show(nh x q p c).1.length+4*z<=50000;exact pR (.a ja (.m 4 jb)) aI [.a ja (.a jc (.a aU iH)),.a (.a jc (.m 4 (.a jb aU))) aI] rfl t9 this,by have:=R.o;show 0+z<=50000;exact mK (.a fU ja) aI [.a (.a jb (.a ja aU)) aI] rfl this⟩
theorem xh{p:Nat}{ex:PV}(hm:gs.length=m)(hl:m<90000)(hc:cr[i]?=some (.a [ck p]))(K:k (.d m) (SG d X f (gH gs kind p nd ex) (cr.set i .d::rg) ni)):
  av (n+1) 26 [.a (.e 6),.a (.d kind),.b 0 i,.a nd,.a ex] (SG d X f gs (cr::rg) ni) k:=by
 subst hm;exact qo (ps:=[p]) hc hl K
theorem gK{ex:PV}:(gH gs kind now nd ex).length=gs.length+1:=aa
abbrev N4(x:jq)(no:Nat)(y:jq):jq:=
 let j:=j9 (tG y.a x.a.length y.b) (no::y.o)
 ⟨j.1,j.2,x.o⟩
abbrev de(n:Nat)(k:KP)(no:Nat)(o:S5)(s:St):Prop:=gb (decide ([ck no].length+(o.map ck).length<=100000)) (av (n+2) 83 [.a (.e 6),.a (.j (ck no::o.map ck))] s λv s=>k v (s.I List.tail))
theorem Fz{x y:jq}{no:Nat}(he:y.a=x.a++⟨3,[x.b],.h,.f []⟩::e)(hl:y.a.length<=50000/\y.o.length<=50000)(K:k (.d (N4 x no y).b) (SG d X f (N4 x no y).a rg ni)):
  tb (some (decide ((y.b:Int)>0))) (de n k no y.o (SG d X f y.a (cr::rg) ni)) (gb (decide (0<=(x.a.length:Int)/\(x.a.length:Int).toNat<(y.a.map GN.I).length)) (ob (y.a.map GN.I)[(x.a.length:Int).toNat]? λvs=>gb (decide (vs.length<100000)) (de n k no y.o (S4 d X (Fc.I {fg f y.a with d:=(y.a.map GN.I).set (x.a.length:Int).toNat (vs++[ck y.b])}) (cr::rg) ni)))):=by
 obtain⟨yg,yn,yo⟩:=y;subst he;rw[N4,zN]at K
 refine WH (de n k no yo) (show 1<100000 by decide) (dP (by rw[ao];exact aA (bY hl.2 1) (by decide)) (qa (fl:=no::yo) ?_ (aA (cA hl.2) (by decide)) K))
 have:=hl.1;rw[aa,iL]at this⊢;exact fh (.a ja (.a jb aU)) br [.a (.a ja (.a jb aU)) aI] rfl this
set_option maxHeartbeats 1000000 in
theorem Sm.s'{q:Nat}{b:Bk}(hb:lP d X f ni (n+2) b.I.I b.c' b.V):lP d X f ni (n+3) (Sm.B j q p false b).I.I (b.c'+1) (Sm.B j q p false b).V:=
 jM (F:=(Sm.B j q p false b).V) (λx h=>if_pos h) (λ{x rg e i k} h0 hg R K=>by
  obtain⟨e,h,l⟩:=uY (kW.g' (b.f' ⟨(nh x q p false).1,(nh x q p false).2.1,[]⟩).g);have ho:=(b.f' ⟨(nh x q p false).1,(nh x q p false).2.1,[]⟩).o;rw[show Sm.V (.B j q p false b) x=N4 x ((gH x.a 3 x.b .h (.f [])).length+1) (b.V ⟨(nh x q p false).1,(nh x q p false).2.1,[]⟩)from if_neg h0,fV hg]at K
  have go:=λk=>hb (k:=k) (x:=⟨(nh x q p false).1,(nh x q p false).2.1,[]⟩) (rg:=([.d,.d,.d]++[.a []])::rg) (e:=0) (i:=3) rfl R.J
  generalize b.V ⟨(nh x q p false).1,(nh x q p false).2.1,[]⟩=y at *
  have G:=R.g;refine in_w<|qR h0<|xh (cr:=[.a [ck x.b]]) (i:=0) rfl (by exact fh ja br [.a (.a ja (.m 4 (.a jb aU))) aI] rfl G) rfl ?_
  refine xh (cr:=[.d,.a [ck x.a.length]]) (i:=1) rfl (by rw[gK];exact fh (.a ja aU) br [.a (.a ja (.m 4 (.a jb aU))) aI] rfl G) rfl ?_
  refine xh (cr:=[.d,.d,.a [ck x.a.length]]) (i:=2) gK (by rw[gK];exact fh (.a (.a ja aU) aU) br [.a (.a ja (.m 4 (.a jb aU))) aI] rfl G) rfl ?_
  refine go _ ?_;exact Fz (no:=((gH x.a 3 x.b .h (.f [])).length+1)) (cr:=[.d,.d,.d]++[.a (y.o.map ck)]) h ⟨by rw[h,aa,iL];exact pR (.a ja (.a jb aU)) aI [.a jb (.a iH (.m 4 jc)),.a (.a ja (.m 4 (.a jc aU))) aI] rfl l G,by have:=R.o;exact aA ho (by show 0+b.c'<=50000;exact mK (.a fU ja) aI [.a (.a jb (.m 4 (.a ja aU))) aI] rfl G)⟩ K) λK=>in_w K
set_option maxHeartbeats 1000000 in
theorem Sm.q'{q:Nat}{b:Bk}(hb:lP d X f ni (n+2) b.I.I b.c' b.V):lP d X f ni (n+3) (Sm.B j q p true b).I.I (b.c'+1) (Sm.B j q p true b).V:=
 jM (F:=(Sm.B j q p true b).V) (λx h=>if_pos h) (λ{x rg e i k} h0 hg R K=>by
  obtain⟨e,h,l⟩:=uY (kW.g' (b.f' ⟨(nh x q p true).1,(nh x q p true).2.1,[]⟩).g);have ho:=(b.f' ⟨(nh x q p true).1,(nh x q p true).2.1,[]⟩).o;rw[show Sm.V (.B j q p true b) x=N4 x 0 (b.V ⟨(nh x q p true).1,(nh x q p true).2.1,[]⟩)from if_neg h0,fV hg]at K
  have go:=λk=>hb (k:=k) (x:=⟨(nh x q p true).1,(nh x q p true).2.1,[]⟩) (rg:=([.d,.d]++[.a []])::rg) (e:=0) (i:=2) rfl R.J
  generalize b.V ⟨(nh x q p true).1,(nh x q p true).2.1,[]⟩=y at *
  have G:=R.g;refine in_w<|qR h0<|xh (cr:=[.a [ck x.b]]) (i:=0) rfl (by exact fh ja br [.a (.a ja (.m 4 (.a jb aU))) aI] rfl G) rfl ?_
  refine xh (cr:=[.d,.a [ck x.a.length]]) (i:=1) rfl (by rw[gK];exact fh (.a ja aU) br [.a (.a ja (.m 4 (.a jb aU))) aI] rfl G) rfl ?_
  refine go _ ?_;exact Fz (no:=0) (cr:=[.d,.d]++[.a (y.o.map ck)]) h ⟨by rw[h,aa,iL];exact pR (.a ja (.a jb aU)) aI [.a jb (.a iH (.m 4 jc)),.a (.a ja (.m 4 (.a jc aU))) aI] rfl l G,by have:=R.o;exact aA ho (by show 0+b.c'<=50000;exact mK (.a fU ja) aI [.a (.a jb (.m 4 (.a ja aU))) aI] rfl G)⟩ K) λK=>in_w K
theorem Sm.u'{q:Nat}{b:Bk}(hb:lP d X f ni (n+2) b.I.I b.c' b.V):∀{c:Bool},lP d X f ni (n+3) (Sm.B j q p c b).I.I (b.c'+1) (Sm.B j q p c b).V
 |false=>Sm.s' hb
 |true=>Sm.q' hb
noncomputable abbrev g8(x:jq)(a:V7×Nat×Nat):jq:=⟨a.1,a.2.1,x.o⟩
abbrev II(v:jq)(u:Nat):jq:=
 let j:=j9 v.a [u,v.b]
 ⟨j.1,j.2,v.o⟩
set_option maxHeartbeats 1000000 in
theorem Sm.A'{q:Nat}{y z:Bk}(hy:lP d X f ni (n+2) y.I.I y.c' y.V)(hz:lP d X f ni (n+2) z.I.I z.c' z.V):lP d X f ni (n+3) (Sm.o j q p none y z).I.I (y.c'+z.c'+1) (Sm.o j q p none y z).V:=
 jM (F:=(Sm.o j q p none y z).V) (λx h=>if_pos h) (λ{x rg e i k} h0 hg R K=>by
  have G:=R.g;have O:=R.o;have A:=(kW:ru 2 x.a (cS x.a x.b none (dM q p none)).1).i';have g1:=y.f' (g8 x (cS x.a x.b none (dM q p none)));have go:=λk=>hy (k:=k) (x:=g8 x (cS x.a x.b none (dM q p none))) (rg:=[.d,.d]::rg) (e:=e+1) (i:=i) hg ⟨by show(cS x.a x.b none (dM q p none)).1.length+_<=_;exact ri (.a ja (.m 4 jb)) aI [.a (.a jc (.m 4 (.a (.a jb jd) aU))) aI,.a ja (.a jc iH)] rfl G A,by show x.o.length+_<=_;exact pR (.a ja jb) aI [.a (.a ja (.a (.a jb jc) aU)) aI] rfl O⟩
  rw[show Sm.V (.o j q p none y z) x=II (z.V ⟨(y.V (g8 x (cS x.a x.b none (dM q p none)))).a,(x.a.length+1),(y.V (g8 x (cS x.a x.b none (dM q p none)))).o⟩) (y.V (g8 x (cS x.a x.b none (dM q p none)))).b from if_neg h0]at K
  have l1:(y.V (g8 x (cS x.a x.b none (dM q p none)))).a.length<=x.a.length+2+4*y.c':=aA g1.g.i' (cN A _);have l2:(y.V (g8 x (cS x.a x.b none (dM q p none)))).o.length<=x.o.length+y.c':=g1.o;clear g1 A;generalize y.V (g8 x (cS x.a x.b none (dM q p none)))=u at *
  have Xy:=λk=>hz (k:=k) (x:=⟨u.a,(x.a.length+1),u.o⟩) (rg:=[.d,.d]::eV rg e i (.a (u.o.map ck))) (e:=e+1) (i:=i) (vI hg) ⟨by show u.a.length+_<=_;exact ri (.a ja (.m 4 jb)) aI [.a (.a jc (.m 4 (.a (.a jd jb) aU))) aI,.a ja (.a (.a jc iH) (.m 4 jd))] rfl G l1,by show u.o.length+_<=_;exact ri (.a ja jb) aI [.a (.a jc (.a (.a jd jb) aU)) aI,.a ja (.a jc jd)] rfl O l2⟩
  have g2:=z.f' ⟨u.a,(x.a.length+1),u.o⟩;have l3:(z.V ⟨u.a,(x.a.length+1),u.o⟩).a.length<=u.a.length+4*z.c':=g2.g.i';clear g2;generalize z.V ⟨u.a,(x.a.length+1),u.o⟩=v at *
  refine in_w ?_;refine qR h0 ?_;refine xh (cr:=[.a [ck x.b]]) (i:=0) rfl (by exact lS ja br [.a (.a ja (.m 4 (.a (.a jb jc) aU))) aI] rfl G) rfl ?_
  refine xh (cr:=[.d,.a [ck x.b]]) (i:=1) gK (by exact lS (.a ja aU) br [.a (.a ja (.m 4 (.a (.a jb jc) aU))) aI] rfl G) rfl ?_
  refine go _ ?_;refine Xy _ ?_;refine qa (rg:=[.d,.d]::eV (eV rg e i (.a (u.o.map ck))) e i (.a (v.o.map ck))) (fl:=[u.b,v.b]) (by exact Oe ja br [.a (.a jb (.m 4 (.a (.a jc jd) aU))) aI,.a je (.a (.a jb iH) (.m 4 jc)),.a ja (.a je (.m 4 jd))] rfl G l1 l3) (show 2<=90000 by decide) ?_
  show k _ (SG d X f _ (eV (eV rg e i (.a (u.o.map ck))) e i (.a (v.o.map ck))) ni);rw[o9];exact K) λK=>in_w K
set_option maxHeartbeats 1000000 in
theorem Sm.z'{q:Nat}{y z:Bk}(hy:lP d X f ni (n+2) y.I.I y.c' y.V)(hz:lP d X f ni (n+2) z.I.I z.c' z.V):lP d X f ni (n+3) (Sm.o j q p (some true) y z).I.I (y.c'+z.c'+1) (Sm.o j q p (some true) y z).V:=
 jM (F:=(Sm.o j q p (some true) y z).V) (λx h=>if_pos h) (λ{x rg e i k} h0 hg R K=>by
  have G:=R.g;have O:=R.o;have A:=(kW:ru 2 x.a (cS x.a x.b (some true) (dM q p (some true))).1).i';have g1:=y.f' (g8 x (cS x.a x.b (some true) (dM q p (some true))));have go:=λk=>hy (k:=k) (x:=g8 x (cS x.a x.b (some true) (dM q p (some true)))) (rg:=[.d]::rg) (e:=e+1) (i:=i) hg ⟨by show(cS x.a x.b (some true) (dM q p (some true))).1.length+_<=_;exact ri (.a ja (.m 4 jb)) aI [.a (.a jc (.m 4 (.a (.a jb jd) aU))) aI,.a ja (.a jc iH)] rfl G A,by show x.o.length+_<=_;exact pR (.a ja jb) aI [.a (.a ja (.a (.a jb jc) aU)) aI] rfl O⟩
  rw[show Sm.V (.o j q p (some true) y z) x=II (z.V ⟨(y.V (g8 x (cS x.a x.b (some true) (dM q p (some true))))).a,0,(y.V (g8 x (cS x.a x.b (some true) (dM q p (some true))))).o⟩) (y.V (g8 x (cS x.a x.b (some true) (dM q p (some true))))).b from if_neg h0]at K
  have l1:(y.V (g8 x (cS x.a x.b (some true) (dM q p (some true))))).a.length<=x.a.length+2+4*y.c':=aA g1.g.i' (cN A _);have l2:(y.V (g8 x (cS x.a x.b (some true) (dM q p (some true))))).o.length<=x.o.length+y.c':=g1.o;clear g1 A;generalize y.V (g8 x (cS x.a x.b (some true) (dM q p (some true))))=u at *
  have Xy:=λk=>hz (k:=k) (x:=⟨u.a,0,u.o⟩) (rg:=[.d]::eV rg e i (.a (u.o.map ck))) (e:=e+1) (i:=i) (vI hg) ⟨by show u.a.length+_<=_;exact ri (.a ja (.m 4 jb)) aI [.a (.a jc (.m 4 (.a (.a jd jb) aU))) aI,.a ja (.a (.a jc iH) (.m 4 jd))] rfl G l1,by show u.o.length+_<=_;exact ri (.a ja jb) aI [.a (.a jc (.a (.a jd jb) aU)) aI,.a ja (.a jc jd)] rfl O l2⟩
  have g2:=z.f' ⟨u.a,0,u.o⟩;have l3:(z.V ⟨u.a,0,u.o⟩).a.length<=u.a.length+4*z.c':=g2.g.i';clear g2;generalize z.V ⟨u.a,0,u.o⟩=v at *
  refine in_w ?_;refine qR h0 ?_;refine xh (cr:=[.a [ck x.b]]) (i:=0) rfl (by exact lS ja br [.a (.a ja (.m 4 (.a (.a jb jc) aU))) aI] rfl G) rfl ?_
  refine go _ ?_;refine Xy _ ?_;refine qa (rg:=[.d]::eV (eV rg e i (.a (u.o.map ck))) e i (.a (v.o.map ck))) (fl:=[u.b,v.b]) (by exact Oe ja br [.a (.a jb (.m 4 (.a (.a jc jd) aU))) aI,.a je (.a (.a jb iH) (.m 4 jc)),.a ja (.a je (.m 4 jd))] rfl G l1 l3) (show 2<=90000 by decide) ?_
  show k _ (SG d X f _ (eV (eV rg e i (.a (u.o.map ck))) e i (.a (v.o.map ck))) ni);rw[o9];exact K) λK=>in_w K
set_option maxHeartbeats 1000000 in
theorem Sm.C'{q:Nat}{y z:Bk}(hy:lP d X f ni (n+2) y.I.I y.c' y.V)(hz:lP d X f ni (n+2) z.I.I z.c' z.V):lP d X f ni (n+3) (Sm.o j q p (some false) y z).I.I (y.c'+z.c'+1) (Sm.o j q p (some false) y z).V:=
 jM (F:=(Sm.o j q p (some false) y z).V) (λx h=>if_pos h) (λ{x rg e i k} h0 hg R K=>by
  have G:=R.g;have O:=R.o;have A:=(kW:ru 2 x.a (cS x.a x.b (some false) (dM q p (some false))).1).i';have g1:=y.f' (g8 x (cS x.a x.b (some false) (dM q p (some false))));have go:=λk=>hy (k:=k) (x:=g8 x (cS x.a x.b (some false) (dM q p (some false)))) (rg:=[.d]::rg) (e:=e+1) (i:=i) hg ⟨by show(cS x.a x.b (some false) (dM q p (some false))).1.length+_<=_;exact ri (.a ja (.m 4 jb)) aI [.a (.a jc (.m 4 (.a (.a jb jd) aU))) aI,.a ja (.a jc iH)] rfl G A,by show x.o.length+_<=_;exact pR (.a ja jb) aI [.a (.a ja (.a (.a jb jc) aU)) aI] rfl O⟩
  rw[show Sm.V (.o j q p (some false) y z) x=II (z.V ⟨(y.V (g8 x (cS x.a x.b (some false) (dM q p (some false))))).a,x.a.length,(y.V (g8 x (cS x.a x.b (some false) (dM q p (some false))))).o⟩) (y.V (g8 x (cS x.a x.b (some false) (dM q p (some false))))).b from if_neg h0]at K
  have l1:(y.V (g8 x (cS x.a x.b (some false) (dM q p (some false))))).a.length<=x.a.length+2+4*y.c':=aA g1.g.i' (cN A _);have l2:(y.V (g8 x (cS x.a x.b (some false) (dM q p (some false))))).o.length<=x.o.length+y.c':=g1.o;clear g1 A;generalize y.V (g8 x (cS x.a x.b (some false) (dM q p (some false))))=u at *
  have Xy:=λk=>hz (k:=k) (x:=⟨u.a,x.a.length,u.o⟩) (rg:=[.d]::eV rg e i (.a (u.o.map ck))) (e:=e+1) (i:=i) (vI hg) ⟨by show u.a.length+_<=_;exact ri (.a ja (.m 4 jb)) aI [.a (.a jc (.m 4 (.a (.a jd jb) aU))) aI,.a ja (.a (.a jc iH) (.m 4 jd))] rfl G l1,by show u.o.length+_<=_;exact ri (.a ja jb) aI [.a (.a jc (.a (.a jd jb) aU)) aI,.a ja (.a jc jd)] rfl O l2⟩
  have g2:=z.f' ⟨u.a,x.a.length,u.o⟩;have l3:(z.V ⟨u.a,x.a.length,u.o⟩).a.length<=u.a.length+4*z.c':=g2.g.i';clear g2;generalize z.V ⟨u.a,x.a.length,u.o⟩=v at *
  refine in_w ?_;refine qR h0 ?_;refine xh (cr:=[.a [ck x.b]]) (i:=0) rfl (by exact lS ja br [.a (.a ja (.m 4 (.a (.a jb jc) aU))) aI] rfl G) rfl ?_
  refine go _ ?_;refine Xy _ ?_;refine qa (rg:=[.d]::eV (eV rg e i (.a (u.o.map ck))) e i (.a (v.o.map ck))) (fl:=[u.b,v.b]) (by exact Oe ja br [.a (.a jb (.m 4 (.a (.a jc jd) aU))) aI,.a je (.a (.a jb iH) (.m 4 jc)),.a ja (.a je (.m 4 jd))] rfl G l1 l3) (show 2<=90000 by decide) ?_
  show k _ (SG d X f _ (eV (eV rg e i (.a (u.o.map ck))) e i (.a (v.o.map ck))) ni);rw[o9];exact K) λK=>in_w K

section
structure cx(B:PV->Bool)(N:Nat)(r:Nat->Bool)(x:Nat)(g:GN):Prop where
 d:g.b=1->r x=true
 a:∀p∈g.a,p<N
 c:∀p∈g.a,r p=true->bk B g=false->r x=true
 b:r x=true->g.b=1\/(bk B g=false/\∃p∈g.a,p<x/\r p=true)
def Nr(B:PV->Bool)(gs:V7)(r:Nat->Bool):Prop:=∀x g,gs[x]?=some g->cx B gs.length r x g
theorem Nr.n'{B:PV->Bool}{gs:V7}{r:Nat->Bool}(L:Nr B gs r){g:GN}(h1:g.b≠1)(hp:∀p∈g.a,p<gs.length):
  ∃r',(∀x,x<gs.length->r' x=r x)/\Nr B (gs++[g]) r'/\r' gs.length=(!bk B g&&g.a.any r):=by
 refine⟨λx=>if x=gs.length then(!bk B g&&g.a.any r)else r x,λx hx=>if_neg (by exactλe'=>YN [.b ja jb,.e ja jb] rfl hx e'),?_,if_pos rfl⟩
 have keep:∀x,x<gs.length->(if x=gs.length then(!bk B g&&g.a.any r)else r x)=r x:=λx hx=>if_neg (by exactλe'=>YN [.b ja jb,.e ja jb] rfl hx e')
 intro x g' hx;have TJ:x<gs.length+1:=by have:=(aL.mp hx).1;rwa [aa]at this
 by_cases e:x=gs.length
 .subst e;rw[bP (aH _),iY]at hx
  obtain rfl:=si hx;refine⟨λh=>absurd h h1,λp rm=>by have:=hp p rm;rw[aa];exact fh ja (.a jb aU) [.b ja jb] rfl this,λp rm hr hb=>?_,λhr=>?_⟩
  .rw[keep p (hp p rm)]at hr
   rw[if_pos rfl,hb,Bool.not_false,sd];exact cI.mpr ⟨p,rm,hr⟩
  .rw[if_pos rfl,bg,mq]at hr
   obtain⟨p,rm,hr'⟩:=cI.mp hr.2;exact .inr ⟨hr.1,p,rm,hp p rm,by rw[keep p (hp p rm)];exact hr'⟩
 .rw[aZ (i0 (rz TJ) e)]at hx
  have l:=L x g' hx;refine⟨λh=>by rw[if_neg e];exact l.d h,λp rm=>by have:=l.a p rm;rw[aa];exact fh ja (.a jb aU) [.b ja jb] rfl this,λp rm hr hb=>?_,λhr=>?_⟩
  .rw[keep p (l.a p rm)]at hr
   rw[if_neg e];exact l.c p rm hr hb
  .rw[if_neg e]at hr
   rcases l.b hr with h|⟨h2,p,rm,h3,h4⟩
   .exact .inl h
   .exact .inr ⟨h2,p,rm,h3,by rw[keep p (l.a p rm)];exact h4⟩
theorem Nr.m'{B:PV->Bool}{gs:V7}{r:Nat->Bool}(L:Nr B gs r){g:GN}(h:gs[0]?=some g)(hk:g.b=0):r 0=false:=by
 induction e:r 0 with
 |false=>rfl
 |true=>
  rcases(L 0 g h).b e with h|⟨J,p,J,hp,J⟩
  .rw[hk]at h;contradiction
  .exact False.elim<|Xq [.b ja fU,.a fU ja] rfl (dK.mpr hp) (bC _)
noncomputable def z8(w:Nat->Nat)(S:S5):Nat->Nat
 |0=>0
 |m+1=>z8 w S m+if m∈S then 0 else w m
theorem zv{w:Nat->Nat}{S:S5}{x:Nat}(hx:x∉S):∀N,(x<N->z8 w (S++[x]) N+w x=z8 w S N)/\(N<=x->z8 w (S++[x]) N=z8 w S N)
 |0=>⟨λh=>by exact False.elim<|Xq [.b ja fU,.a fU ja] rfl (dK.mpr h) (bC _),λJ=>rfl⟩
 |m+1=>by
  obtain⟨i1,i2⟩:=zv (w:=w) hx m;simp only[z8,aS,aB];constructor
  .intro h;by_cases e:x=m
   .subst e;rw[i2 (aH _),if_pos (.inr rfl),if_neg hx];exact gT (mK (.a (.a ja fU) jb) (.a ja jb) [] rfl) (mK (.a ja jb) (.a (.a ja fU) jb) [] rfl)
   .have:=i1 (i0 (rz h) e);have e':¬m=x:=λh=>e h.symm
    by_cases q:m∈S
    .rw[if_pos (.inl q),if_pos q];exact gT (pR (.a (.a ja fU) jb) (.a jc fU) [.f (.a ja jb) jc] rfl this) (pR (.a ja fU) (.a (.a jb fU) jc) [.e (.a jb jc) ja] rfl this)
    .rw[if_neg (λh=>h.elim q e'),if_neg q];exact gT (ri (.a (.a ja jb) jc) (.a jd jb) [.f (.a ja jc) jd] rfl this) (ri (.a ja jb) (.a (.a jc jb) jd) [.e (.a jc jd) ja] rfl this)
  .intro h;have e':¬m=x:=by exactλe'=>YN [.a (.a ja aU) jb,.e ja jb] rfl h e'
   rw[i2 (by exact mK ja jb [.a (.a ja aU) jb] rfl h)]
   by_cases q:m∈S
   .rw[if_pos (.inl q),if_pos q]
   .rw[if_neg (λh=>h.elim q e'),if_neg q]
noncomputable def xO(gs:V7)(x:Nat):Nat:=match gs[x]? with
 |some g=>g.a.length
 |none=>0
structure RI(gs:V7)(r:Nat->Bool)(fl:Nat)(S st:S5)(k:Nat):Prop where
 d:∀x∈st,x<gs.length
 a:r fl=false->∀x∈st,r x=false
 e:r fl=true->(fl∈S\/fl∈st)/\∀x∈S,r x=true->∃p,p<x/\r p=true/\(p∈S\/p∈st)
 f:st.length+z8 (xO gs) S gs.length<=k
 i:S.length+st.length+z8 (xO gs) S gs.length<=50000
theorem RI.V{gs:V7}{r:Nat->Bool}{fl k:Nat}{S:S5}(I:RI gs r fl S [] k):r fl=false:=by
 induction h:r fl
 .rfl
 obtain⟨h1,h2⟩:=I.e h;have:∀m x,x<m->x∈S->r x=true->False:=by
  intro m
  induction m with
  |zero=>exactλx hx=>absurd hx (jn x)
  |succ m ih=>intro x hx hs hr;obtain⟨p,p1,p2,p3⟩:=h2 x hs hr;exact ih p (by exact lS ja jb [.b jc (.a jb aU),.b ja jc] rfl hx p1) (p3.resolve_right (λh=>nomatch h)) p2
 exact(this (fl+1) fl (by exact fJ ja (.a ja aU) [] rfl) (h1.resolve_right (λh=>nomatch h)) h).elim
section
variable{gs:V7}{r:Nat->Bool}{fl m:Nat}{S b:S5}{x:Nat}{g:GN}
theorem UF{b c R R' w:Nat}(e:R'+w=R)(hc:c<=w):b+c+R'+1<=b+1+R:=by rw[<-e,dZ b c R',fE c R',i6 b 1];exact cA (bY (bY hc R') b)
theorem ri2{s b c R R' w k:Nat}(e:R'+w=R)(hc:c<=w)(h:s+(b+1)+R<=k):s+1+(b+c)+R'<=k:=by
 rw[dZ]at h
 rw[dZ s 1,dZ s,fE 1,i6];exact aA (bY (UF e hc) s) h
theorem RI.O(I:RI gs r fl S (b++[x]) m)(h:x∈S):RI gs r fl S b (m-1):=by
 have sz:=I.f;have ln:=I.i;rw[aa]at sz ln
 refine⟨λy hy=>I.d y (b9 _ hy),λh y hy=>I.a h y (b9 _ hy),λhf=>?_,Nat.le_sub_of_add_le (i6 b.length 1 _▸sz),aA (cN (bY (bL b.length) S.length) _) ln⟩
 obtain⟨y1,y2⟩:=I.e hf;have Xz:∀p,p∈S\/p∈b++[x]->p∈S\/p∈b:=λp q=>q.elim .inl λq=>(aS.mp q).elim .inr λq=>.inl (aB.mp q▸h)
 exact⟨Xz _ y1,λz hz hr=>(y2 z hz hr).imp λp h=>⟨h.1,h.2.1,Xz p h.2.2⟩⟩
theorem RI.J(I:RI gs r fl S (b++[x]) m)(h:x∉S)(hg:gs[x]?=some g){c:S5}(hc:c.length<=g.a.length)(TJ:∀y∈c,y<gs.length)(no:r x=false->∀y∈c,r y=false)(yes:r x=true->∃p,p<x/\r p=true/\p∈c):RI gs r fl (S++[x]) (b++c) (m-1):=by
 have sz:=I.f;have ln:=I.i;have rx:=(zv (w:=xO gs) h gs.length).1 (I.d x (bw _ (aB.mpr rfl)));have wx:xO gs x=g.a.length:=by unfold xO;rw[hg]
 rw[aa]at sz ln
 change b.length+1+_<=m at sz
 change S.length+(b.length+1)+_<=_ at ln
 have nx:=λh=>I.a h x (bw _ (aB.mpr rfl))
 refine⟨λy hy=>(aS.mp hy).elim (λh=>I.d y (b9 _ h)) (TJ y),λhf y hy=>(aS.mp hy).elim (λh=>I.a hf y (b9 _ h)) (no (nx hf) y),λhf=>?_,by rw[aa];exact Nat.le_sub_of_add_le (aA (UF rx (wx▸hc)) sz),by rw[aa,aa];exact ri2 rx (wx▸hc) ln⟩
 obtain⟨y1,y2⟩:=I.e hf;have Xz:∀p,p∈S\/p∈b++[x]->p∈S++[x]\/p∈b++c:=λp q=>q.elim (λq=>.inl (b9 _ q)) λq=>(aS.mp q).elim (λq=>.inr (b9 _ q)) λq=>.inl (bw _ q)
 refine⟨Xz _ y1,λz hz hr=>(aS.mp hz).elim (λhz=>(y2 z hz hr).imp λp h=>⟨h.1,h.2.1,Xz p h.2.2⟩) λhz=>?_⟩
 obtain rfl:=aB.mp hz;exact(yes hr).imp λp h=>⟨h.1,h.2.1,.inr (bw _ h.2.2)⟩
end
variable{n:Nat}{d:ah}{X:S3}{f:Fc}{rg:V5}{ni:S1}{k:KP}{gs:V7}{r:Nat->Bool}{N:Int->Bool}{nv:PV}
noncomputable abbrev iD(S:S5):S1:=S.map Int.ofNat
theorem Km{S:S5}{x:Nat}:(x:Int)∈iD S↔x∈S:=by rw[bF];exact⟨λ⟨y,h1,h2⟩=>r9 h2▸h1,λh=>⟨x,h,rfl⟩⟩
abbrev rS(S st:S5):V6:=[.e false (gD (iD S)),.a (st.map ck)]
abbrev Jo:XV:=bU (xD (oJ (av (n+2)) (bx 4) 10 (bO (bx 6) d9))) eG
theorem Lu{k:KX}{x:Nat}{g:GN}(hx:gs[x]?=some g){a0 a1 a2 a5 a6:S7}{S st:S5}{m:Nat}(hm:m=g.a.length)(hl:st.length+g.a.length<100000)(K:∀a6,k .a [a0,a1,a2,some (.b 0 0),some (.b 0 1),a5,a6] (SG d X f gs (rS S (st++g.a)::rg) ni)):
  forLoop (.inl 6) (.b (.e 8 x)) (Jo (n:=n)) (m+1) 0 [a0,a1,a2,some (.b 0 0),some (.b 0 1),a5,a6] (SG d X f gs (rS S st::rg) ni) k:=by
 have e:∀(l:S5)(y:S5),l.foldl (λst v=>st++[v]) y=y++l:=λl=>by
  induction l with
  |nil=>exactλy=>(az y).symm
  |cons v l ih=>intro y;rw[jo,ih,aK];rfl
 refine k8 (ι:=S7) (f:=ck) (vs:=g.a) ⟨λa J=>[a0,a1,a2,some (.b 0 0),some (.b 0 1),a5,a],λst=>SG d X f gs (rS S st::rg) ni,λj st=>st.length+j<100000⟩ (λst v=>st++[v]) (λst j=>?_) hm hl (λJ a=>by rw[e];exact K a) λj a st v hv hy=>⟨by dsimp only at hy⊢;rw[aa];show st.length+1+j<_;exact fh (.a (.a ja aU) jb) aX [.b (.a ja (.a jb aU)) aX] rfl hy,λq hq=>?_⟩
 .show((gs.map GN.I)[x]?).map (λvs=>vs[j]?)=some (g.a.map ck)[j]?
  rw[qt hx];rfl
 .dsimp only at hy
  refine dP (p:=(st.map ck).length<100000) (by rw[ao];exact fh ja aX [.b (.a ja (.a jb aU)) aX] rfl hy) ?_
  have:=hq (some (.a (ck v)));dsimp only[rS]at this
  rw[aD]at this
  exact this
abbrev eM(n:Nat):XV:=bU (gJ 5 (oJ (av (n+2)) (bx 4) 37 d9)) (bU (um (jG .b (bx 5) (bx 3)) (bU RX eG) eG) (bU (mZ (bx 3) (bx 5) (bN (.d 1))) (bU (um (jG .a (zZ (fT (bx 0) 22) (bx 5)) (jP 33)) (bU (Iw (bN (.g true))) eG) eG)
 (bU (um (Ut (tE (av (n+2)) 29 (bO (bx 0) (bO (bx 5) (bO (bx 2) d9))))) (bU (BU (.inl 6) (DL (zZ (fT (bx 0) 23) (bx 5))) (Jo (n:=n))) eG) eG) eG))))
theorem Ep(hN:∀v rg,tu (SG d X f gs rg ni) (.d v) (.a nv)=some (N v))(ok:∀g∈gs,Fe ni g)(L:Nr (NB ni N) gs r){fl:Nat}{a1:S7}{k:KX}
  (KF:r fl=false->∀loc cr,k .a loc (SG d X f gs (cr::rg) ni))(KT:r fl=true->∀loc cr,k (.b (.a (.g true))) loc (SG d X f gs (cr::rg) ni))(j:Nat):
  ∀{S st:S5}{m:Nat}{a5 a6:S7},RI gs r fl S st m->m<j->ee (bx 4) (eM n) j [some (.a (.e 6)),a1,some (.a (.m 6 [nv,eD])),some (.b 0 0),some (.b 0 1),a5,a6] (SG d X f gs (rS S st::rg) ni) k:=by
 induction j with
 |zero=>exactλJ h=>absurd h (jn _)
 |succ j ih=>
  intro S st m a5 a6 I hm;rcases mV st with rfl|⟨b,x,rfl⟩
  .exact KF I.V _ _
  .rw[mY]at *
   have xl:=I.d x (bw _ aj);obtain⟨g,hg⟩:∃g,gs[x]?=some g:=⟨_,b7 xl⟩;have og:=ok g (gZ hg);refine kL (b:= !((b++[x]).map ck).isEmpty) (by simp) ?_
   refine cG (o:=((b++[x]).map ck).getLast?) vW ?_;rw[vX];show tb (some (bA (.d (x:Int)) (gD (iD S))).isSome) _ _;rw[rH];have hl:=I.i;rw[aa]at hl
   change S.length+(b.length+1)+_<=_ at hl
   have mz:=I.f;rw[aa]at mz
   change b.length+1+_<=m at mz
   have m1:m-1<j:=Nat.sub_lt_right_of_lt_add (by exact pR aU ja [.a (.a (.a jb aU) jc) ja] rfl mz) hm
   refine BW (λhx=>?_) λhx=>ih (I.O (Km.mp hx)) m1
   have I3:x∉S:=λh=>hx (Km.mpr h)
   refine yG (G:=iD S) (by rw[ao];exact lS ja aX [.a (.a (.a ja (.a jb aU)) jc) aI] rfl hl) ?_
   refine cG (o:=(gs.map GN.J)[x]?) (qt hg) ?_;have lx:=L x g hg;refine nu (b:=g.b==1) (p:=g.b=1) beq_iff_eq (λk1=>?_) λk1=>?_
   .have e:cY (.d (x:Int)) (.d 1) (gD (iD S))=gD (iD (S++[x])):=by rw[sS];unfold lN;rw[if_neg hx];unfold iD;rw[aD];rfl
    have go:∀{c:S5}{a6:S7},RI gs r fl (S++[x]) c (m-1)->ee (bx 4) (eM n) j [some (.a (.e 6)),a1,some (.a (.m 6 [nv,eD])),some (.b 0 0),some (.b 0 1),some (.a (ck x)),a6] (SG d X f gs (rS (S++[x]) c::rg) ni) k:=λI'=>ih I' m1
    have blk:∀{K':KP},K' (.g (bk (NB ni N) g)) (SG d X f gs (rS (S++[x]) b::rg) ni)->av (n+2) 29 [.a (.e 6),.a (ck x),.a (.m 6 [nv,eD])] (SG d X f gs ([.e false (cY (.d (x:Int)) (.d 1) (gD (iD S))),.a (b.map ck)]::rg) ni) K':=λh=>by rw[e];exact Ii hN hg og h
    refine blk ?_
    induction hb:bk (NB ni N) g
    .refine dP (p:=0<=(x:Int)/\(x:Int).toNat<(gs.map GN.I).length) ⟨bC _,by rw[ao];exact xl⟩ ?_
     refine cG (o:=((gs.map GN.I)[x]?).map λJ=>It.b (.e 8 x)) (by rw[qt hg];rfl) ?_
     refine(?_ :∀q,q=g.a.length->forLoop (.inl 6) (.b (.e 8 x)) (Jo (n:=n)) (q+1) 0 _ _ _) ((((gs.map GN.I)[x]?).getD []).length) (by rw[qt hg];exact ao ..)
     rintro q rfl;have wx:xO gs x=g.a.length:=by unfold xO;rw[hg]
     have rx:=(zv (w:=xO gs) I3 gs.length).1 xl;refine Lu hg rfl (by exact jT6 (.a ja jb) aX [.a (.a (.a jc (.a ja aU)) jd) aI,.e je jb,.f (.a jf je) jd] rfl hl wx rx) λa6=>go (I.J I3 hg (aH _) lx.a (λhf y hy=>?_) λhf=>?_)
     .induction hr:r y
      .rfl
      .have:=lx.c y hy hr hb;rw[hf]at this;exact ft this
     .obtain⟨J,p,p1,p2,p3⟩:=(lx.b hf).resolve_left k1;exact⟨p,p2,p3,p1⟩
    .refine go ?_;have:=I.J I3 hg (c:=[]) (bI _) (λJ h=>nomatch h) (λJ J h=>nomatch h) λhf=>by obtain⟨h,J⟩:=(lx.b hf).resolve_left k1;rw[hb]at h;exact tf h
     rwa [az]at this
   .have rf:r fl=true:=by
     induction h:r fl
     .have:=I.a h x (bw _ (aB.mpr rfl));rw[lx.d k1]at this;exact tf this
     .rfl
    exact KT rf _ _
theorem Hx(hN:∀v rg,tu (SG d X f gs rg ni) (.d v) (.a nv)=some (N v))(ok:∀g∈gs,Fe ni g)(L:Nr (NB ni N) gs r){fl:Nat}(hf:fl<gs.length)(hr:z8 (xO gs) [] gs.length<=40000){k:KP}(K:k (.g (r fl)) (SG d X f gs rg ni)):
  av (n+3) 30 [.a (.e 6),.a (.d fl),.a (.m 6 [nv,eD])] (SG d X f gs rg ni) k:=by
 apply in_w;show ee (bx 4) (eM n) 50000 [some (.a (.e 6)),some (.a (.d fl)),some (.a (.m 6 [nv,eD])),some (.b 0 0),some (.b 0 1),none,none] (SG d X f gs (rS [] [fl]::rg) ni) _;refine Ep hN ok L (λh loc cr=>?_) (λh loc cr=>?_) 50000 (S:=[]) (st:=[fl]) (m:=1+z8 (xO gs) [] gs.length) ⟨λx hx=>aB.mp hx▸hf,λh x hx=>aB.mp hx▸h,λJ=>⟨.inr (aB.mpr rfl),λJ h=>nomatch h⟩,aH _,by show 0+1+_<=_;exact kQ (.a (.a fU aU) ja) aI [.a ja jt] rfl hr⟩ (by exact fJ (.a aU ja) aI [.a ja jt] rfl hr)
 .rw[h]at K;exact K
 .rw[h]at K;exact K
end

abbrev km(cl:CL):XV:=bU (gJ 2 (tE cl 84 (bO (bx 0) (bO (bx 4) (bO (bx 2) (bO (bx 3) d9)))))) eG
abbrev kf(t:PV)(now e i:Nat)(a:S7):dj:=[some (.a (.e 6)),some (.a t),some (.a (ck now)),some (.b (e+1) i),a,none,none,none,none]
theorem lP.o'{n':Nat}{t:PV}{F:jq->jq}(e:n=n')(h:lP d X f ni n t z F):lP d X f ni n' t z F:=e▸h
theorem Sm.D'{q:Nat}{y z:Bk}{N:Nat}(hy:∃u,N=u+y.d')(hz:∃u,N=u+z.d')(gy:∀u,lP d X f ni (u+y.d'+2) y.I.I y.c' y.V)(gz:∀u,lP d X f ni (u+z.d'+2) z.I.I z.c' z.V):∀{lT:V8},lP d X f ni (N+3) (Sm.o j q p lT y z).I.I (y.c'+z.c'+1) (Sm.o j q p lT y z).V:=by
 obtain⟨u,e⟩:=hy;obtain⟨v,e'⟩:=hz;have hy:lP d X f ni (N+2) y.I.I y.c' y.V:=lP.o' (congrArg (· +2) e.symm) (gy u);have hz:lP d X f ni (N+2) z.I.I z.c' z.V:=lP.o' (congrArg (· +2) e'.symm) (gz v)
 exactλ{lT}=>match lT with
  |none=>Sm.A' hy hz
  |some true=>Sm.z' hy hz
  |some false=>Sm.C' hy hz
def FlS(d:ah)(X:S3)(f:Fc)(ni:S1)(F:jq->jq)(c u:Nat)(v:S3):Prop:=∀⦃n:Nat⦄ ⦃x:jq⦄ ⦃rg:V5⦄ ⦃e i:Nat⦄ ⦃k:KX⦄ ⦃p:S3⦄ ⦃t:PV⦄ ⦃a:S7⦄,gR rg e i=some (.a (x.o.map ck))->Jc x c->(∀a,k .a (kf t (F x).b e i a) (SG d X f (F x).a ([]::eV rg e i (.a ((F x).o.map ck))) ni))->
  forLoop (.inl 4) (.a (p++v)) (km (av (n+u+2))) (v.length+1) p.length (kf t x.b e i a) (SG d X f x.a ([]::rg) ni) k
mutual
theorem Sm.v':∀(m:Sm){n:Nat},lP d X f ni (n+m.d'+2) m.I.I m.g' m.V
 |.D ..,n=>Sm.y'
 |.L ..,n=>Sm.x'
 |.E ..,n=>Sm.F'
 |.C ..,n=>Sm.E'
 |.M ..,n=>Sm.G'
 |.B _ _ _ _ b,n=>Sm.u' b.n'
 |.o _ _ _ lT y z,n=>Sm.D' (AI n y.d' z.d') (AH n y.d' z.d') (λn=>y.n') (λn=>z.n')
theorem Bk.n':∀(m:Bk){n:Nat},lP d X f ni (n+m.d'+2) m.I.I m.c' m.V
 |.mk j p ss,n=>jM (F:=(Bk.mk j p ss).V) (λx h=>if_pos h) (λ{x rg e i k} h0 hg R K=>by
  rw[show Bk.V (.mk j p ss) x=ss.c' x from if_neg h0]at K
  refine in_w ?_;refine qR h0 ?_;show forLoop (.inl 4) (.a ss.I.J) (km (av (n+ss.O+2))) _ _ _ _ _;show forLoop (.inl 4) (.a ss.I.J) (km (av (n+ss.O+2))) (ss.I.J.length+1) 0 (kf (Bk.I (.mk j p ss)).I x.b e i none) _ _;exact ss.k' (p:=[]) hg R λJ=>K) λK=>in_w K
theorem Ss.k':∀m:Ss,FlS d X f ni m.c' m.J m.O m.I.J
 |.g=>λn x rg e i k p t a hg R K=>cG (o:=some _) rfl (w7 pK (by
   have:=K a;rw[show Ss.c' .g x=x from rfl,fV hg]at this
   exact this))
 |.c m r=>λn x rg e i k p t a hg R K=>cG (o:=some _) rfl (uh (a:=m.I.I) nE (by
   obtain⟨u,e1⟩:=AI n m.d' r.O;obtain⟨v,e2⟩:=AH n m.d' r.O;have hm:lP d X f ni (n+max m.d' r.O+2) m.I.I m.g' m.V:=lP.o' (congrArg (· +2) e1.symm) (m.v' (n:=u));have F:=m.k' x;have R':Jc (m.V x) r.J:=⟨by have t9:=F.g.i';have:=R.g;show(m.V x).a.length+_<=_;rw[show Ss.J (.c m r)=m.g'+r.J from rfl]at this;exact ri (.a ja (.m 4 jb)) aI [.a ja (.a jc (.m 4 jd)),.a (.a jc (.m 4 (.a jd jb))) aI] rfl t9 this,by have t9:=F.o;have:=R.o;rw[show Ss.J (.c m r)=m.g'+r.J from rfl]at this;exact ri (.a ja jb) aI [.a ja (.a jc jd),.a (.a jc (.a jd jb)) aI] rfl t9 this⟩
   have ih:=r.k' (n:=v) (x:=m.V x) (rg:=eV rg e i (.a ((m.V x).o.map ck))) (e:=e) (i:=i) (k:=k) (p:=p++[m.I.I]) (t:=t) (a:=some (.a m.I.I)) (vI hg) R' (by rw[o9];exact K)
   rw[aK,aa,<-e2]at ih
   exact hm (x:=x) (rg:=[]::rg) (e:=e+1) (i:=i) hg ⟨by have:=R.g;rw[show Ss.J (.c m r)=m.g'+r.J from rfl]at this;exact pR (.a ja (.m 4 jb)) aI [.a (.a ja (.m 4 (.a jb jc))) aI] rfl this,by have:=R.o;rw[show Ss.J (.c m r)=m.g'+r.J from rfl]at this;exact pR (.a ja jb) aI [.a (.a ja (.a jb jc)) aI] rfl this⟩ ih))
end

noncomputable def qU(gs:V7):Nat:=(gs.map λg=>1+g.a.length).sum
theorem r6(a b:V7):qU (a++b)=qU a+qU b:=by unfold qU;rw[aD,List.sum_append]
mutual
noncomputable def Sm.j':Sm->List (Nat×V8)
 |.C _ c _ _ w=>[(c,w)]
 |.B _ _ _ _ b=>b.i'
 |.o _ _ _ _ y z=>y.i'++z.i'
 |_=>[]
noncomputable def Bk.i':Bk->List (Nat×V8)
 |.mk _ _ ss=>ss.f'
noncomputable def Ss.f':Ss->List (Nat×V8)
 |.g=>[]
 |.c s r=>s.j'++r.f'
end
variable{N:Int->Bool}{g1 g2:V7}{r r1 r2:Nat->Bool}{x y:jq}{k k1:Nat}{p q:Bool×Bool}
def oM(ni:S1)(N:Int->Bool)(b:Bool)(l:List (Nat×V8)):Prop:=∀e∈l,∃v,ni[e.1]?=some v/\(e.2≠some false->N v=(b&&e.2==some true))
structure GP(ni:S1)(N:Int->Bool)(gs:V7)(r:Nat->Bool):Prop where
 f:Nr (NB ni N) gs r
 z:∃g,gs[0]?=some g/\g.b=0
 d:∀g∈gs,Fe ni g
structure GS(ni:S1)(N:Int->Bool)(gs g1:V7)(r r1:Nat->Bool)(k:Nat):Prop where
 g:GP ni N g1 r1
 b:gs.length<=g1.length
 d:∀x,x<gs.length->r1 x=r x
 e:qU g1<=qU gs+k
theorem GP.I(h:GP ni N gs r):r 0=false:=by obtain⟨g,h1,h2⟩:=h.z;exact h.f.m' h1 h2
theorem GP.O(h:GP ni N gs r):0<gs.length:=by obtain⟨g,h1,h2⟩:=h.z;exact(aL.mp h1).1
theorem GS.I(a:GS ni N gs g1 r r1 k)(c:GS ni N g1 g2 r1 r2 k1):GS ni N gs g2 r r2 (k+k1):=⟨c.g,aA a.b c.b,λx h=>(c.d x (aR h a.b)).trans (a.d x h),by rw[<-dZ];exact aA c.e (cN a.e _)⟩
theorem GP.d'(h:GP ni N gs r){g:GN}(h1:g.b≠1)(hp:∀p∈g.a,p<gs.length)(ok:Fe ni g):∃r1,GS ni N gs (gs++[g]) r r1 (1+g.a.length)/\r1 gs.length=(!bk (NB ni N) g&&g.a.any r):=by obtain⟨r1,a,c,e⟩:=h.f.n' h1 hp;obtain⟨g0,z1,z2⟩:=h.z;exact⟨r1,⟨⟨c,⟨g0,by rw[aZ h.O];exact z1,z2⟩,λx hx=>(aS.mp hx).elim (h.d x) λhx=>aB.mp hx▸ok⟩,by rw[aa];exact cB ..,a,bZ (by rw[r6];rfl)⟩,e⟩
theorem Bj{ps:S5}{ex:PV}(h8:kind≠8)(h7:kind≠7):Fe ni ⟨kind,ps,nd,ex⟩:=⟨h8,λh=>absurd h h7⟩
theorem BO{B:PV->Bool}{ps:S5}{ex:PV}(h7:kind≠7):bk B ⟨kind,ps,nd,ex⟩=false:=by unfold bk;rw[decide_eq_false h7];rfl
theorem GP.V(h:GP ni N gs r){ex:PV}(hn:now<gs.length)(h1:kind≠1)(h7:kind≠7)(h8:kind≠8):∃r1,GS ni N gs (gH gs kind now nd ex) r r1 2/\r1 gs.length=r now:=by
 obtain⟨r1,a,e⟩:=h.d' (g:=⟨kind,[now],nd,ex⟩) h1 (λp hp=>aB.mp hp▸hn) (Bj h8 h7)
 exact⟨r1,a,by rw[e,BO h7];exact(d7 _)⟩
theorem zO(hz:r 0=false):∀fl:S5,(fl.filter (0< ·)).any r=fl.any r
 |[]=>rfl
 |0::t=>by rw[dF,hz];exact zO hz t
 |(x+1)::t=>congrArg (r (x+1)|| ·) (zO hz t)
theorem GP.e'(h:GP ni N gs r){fl:S5}(hp:∀p∈fl,p<gs.length):∃r1,GS ni N gs (j9 gs fl).1 r r1 (1+fl.length)/\(j9 gs fl).2<(j9 gs fl).1.length/\r1 (j9 gs fl).2=fl.any r:=by
 rw[<-zO h.I];have hl:=mU (0< ·) fl;have rm:∀p∈fl.filter (0< ·),p<gs.length:=λp h=>hp p (cR.mp h).1
 unfold j9;generalize fl.filter (0< ·)=l at *
 split
 .refine⟨r,⟨h,aH _,λJ J=>rfl,cB ..⟩,?_⟩
  rcases l with J|⟨a,J|⟨c,l⟩⟩
  .exact⟨h.O,h.I⟩
  .exact⟨rm a aj,(d7 _).symm⟩
  .rename_i hh;exact absurd hh (nI.mpr (gU 2 _))
 .obtain⟨r1,a,e⟩:=h.d' (g:=⟨2,l,.h,.f []⟩) (show(2:Int)≠1 by decide) rm (Bj (by decide) (by decide))
  exact⟨r1,{a with e:=aA a.e (bY (bY hl 1) _)},by rw[aa];exact bD _,by rw[e,BO (by decide)];rfl⟩
theorem GP.f'(h:GP ni N gs r)(hn:now<gs.length)(a:V8):∃r1,GS ni N gs (cS gs now a nd).1 r r1 4/\(cS gs now a nd).2.1<(cS gs now a nd).1.length/\(cS gs now a nd).2.2<(cS gs now a nd).1.length/\r1 (cS gs now a nd).2.1=(r now&&a != some false)/\r1 (cS gs now a nd).2.2=(r now&&a != some true):=by
 have le:∀{k},2<=k->∀{g1 r1},GS ni N gs g1 r r1 2->GS ni N gs g1 r r1 k:=λhk J J s=> {s with e:=aA s.e (bY hk _)}
 have ll:∀{g:V7}{kind:Int}{now:Nat}{nd ex:PV},g.length<(gH g kind now nd ex).length:=by intros;rw[gK];exact bD _
 obtain _|_|_:=a
 .obtain⟨r1,s1,e1⟩:=h.V (kind:=5) (nd:=nd) (ex:=.f []) hn (by decide) (by decide) (by decide)
  obtain⟨r2,s2,e2⟩:=s1.g.V (kind:=6) (nd:=nd) (ex:=.f []) (aR hn s1.b) (by decide) (by decide) (by decide)
  exact⟨r2,s1.I s2,uK ll ll,by show gs.length+1<_;rw[<-gK (kind:=5) (now:=now) (nd:=nd) (ex:=.f [])];exact ll,((s2.d _ ll).trans e1).trans (gg _).symm,by
   rw[gK,s1.d _ hn]at e2
   exact e2.trans (gg _).symm⟩
 .obtain⟨r1,s1,e1⟩:=h.V (kind:=6) (nd:=nd) (ex:=.f []) hn (by decide) (by decide) (by decide)
  exact⟨r1,le (by decide) s1,s1.g.O,ll,s1.g.I.trans (qj _).symm,e1.trans (gg _).symm⟩
 .obtain⟨r1,s1,e1⟩:=h.V (kind:=5) (nd:=nd) (ex:=.f []) hn (by decide) (by decide) (by decide)
  exact⟨r1,le (by decide) s1,ll,s1.g.O,e1.trans (gg _).symm,s1.g.I.trans (qj _).symm⟩
theorem GP.j'{y:Nat}(h:GP ni N (a++g::e) r)(a0:0<a.length)(hy:y<(a++g::e).length)(hr:r y=true->r a.length=true):GP ni N (a++ {g with a:=g.a++[y]}::e) r:=by
 have hg:(a++g::e)[a.length]?=some g:=by rw[bP (aH _),iY];rfl
 have hl:(a++ {g with a:=g.a++[y]}::e).length=(a++g::e).length:=by rw[aa,aa];rfl
 refine⟨λx g' hx=>?_,?_,λg' hg'=>?_⟩
 .by_cases e1:x=a.length
  .subst e1;rw[bP (aH _),iY]at hx
   obtain rfl:=si hx;have l:=h.f _ _ hg;refine⟨l.d,λp hp=>?_,λp hp h1 h2=>?_,λh1=>?_⟩
   .rw[hl];exact(aS.mp hp).elim (l.a p) λh=>aB.mp h▸hy
   .exact(aS.mp hp).elim (λh=>l.c p h h1 h2) λh=>hr (aB.mp h▸h1)
   .exact(l.b h1).imp id λ⟨h2,p,h3,h4⟩=>⟨h2,p,b9 _ h3,h4⟩
  .have:(a++g::e)[x]?=some g':=by
    rw[<-hx];by_cases h1:x<a.length
    .rw[aZ h1,aZ h1]
    .obtain⟨m,rfl⟩:=Nat.exists_eq_add_of_lt (i0 (nI.mp h1) (gE e1));rw[bP (nI.mp h1),bP (nI.mp h1),dZ,Nat.add_sub_cancel_left];rfl
   have l:=h.f _ _ this;exact⟨l.d,λp hp=>hl▸l.a p hp,l.c,l.b⟩
 .obtain⟨z,h1,h2⟩:=h.z;exact⟨z,by rw[aZ a0]at h1⊢;exact h1,h2⟩
 .rcases aS.mp hg' with h1|h1
  .exact h.d g' (b9 _ h1)
  .rcases aF.mp h1 with rfl|h1
   .have:=h.d g (bw _ aj);exact⟨this.a,this.b⟩
   .exact h.d g' (bw _ (af _ h1))

variable{z:jq}{c c1:Nat}
structure Fp(ni:S1)(N:Int->Bool)(x:jq)(r:Nat->Bool):Prop where
 g:GP ni N x.a r
 b:x.b<x.a.length
 a:∀p∈x.o,p<x.a.length
structure FO(ni:S1)(N:Int->Bool)(x y:jq)(r r1:Nat->Bool)(q:Bool×Bool)(c:Nat):Prop where
 p:Fp ni N y r1
 f:x.a.length<=y.a.length
 j:∀i,i<x.a.length->r1 i=r i
 l:r1 y.b=(r x.b&&q.1)
 n:y.o.any r1=(x.o.any r||(r x.b&&q.2))
 m:qU y.a+2*y.o.length<=qU x.a+2*x.o.length+12*c
theorem yX(ag:∀i,i<gs.length->r1 i=r i):∀{l:S5},(∀p∈l,p<gs.length)->l.any r1=l.any r
 |[],_=>rfl
 |a::l,h=>by rw[dF,dF,ag a (h a aj),yX ag λp hp=>h p (af _ hp)]
theorem Ue(a b:Bool):(a||(b&&false))=a:=by induction a<;>induction b<;>rfl
theorem FO.V(h:Fp ni N x r):FO ni N x x r r (true,false) c:=⟨h,aH _,λJ J=>rfl,(gg _).symm,(Ue ..).symm,cB ..⟩
theorem FO.e'(h:Fp ni N x r)(h0:x.b=0):FO ni N x x r r q c:=by
 have:r x.b=false:=by rw[h0];exact h.g.I
 exact⟨h,aH _,λJ J=>rfl,by rw[this];rfl,by rw[this];exact(d7 _).symm,cB ..⟩
theorem FO.c'(h:Fp ni N x r):FO ni N x {x with b:=0} r r (false,false) c:=⟨⟨h.g,h.g.O,h.a⟩,aH _,λJ J=>rfl,h.g.I.trans (qj _).symm,(Ue ..).symm,cB ..⟩
theorem FO.k'(h:Fp ni N x r):FO ni N x ⟨x.a,0,x.o++[x.b]⟩ r r (false,true) (c+1):=⟨⟨h.g,h.g.O,λp hp=>(aS.mp hp).elim (h.a p) λh'=>aB.mp h'▸h.b⟩,aH _,λJ J=>rfl,h.g.I.trans (qj _).symm,by rw[gV,dF,List.any_nil,d7,gg],by rw[aa];show _+2*(_+1)<=_;exact pR (.a ja (.m 2 (.a jb aU))) (.a (.a ja (.m 2 jb)) (.m 12 (.a jc aU))) [] rfl⟩
theorem FO.g'(a:FO ni N x y r r1 p c)(d:FO ni N y z r1 r2 q c1):FO ni N x z r r2 (qO p q) (c+c1):=⟨d.p,aA a.f d.f,λi h=>(d.j i (aR h a.f)).trans (a.j i h),by rw[d.l,a.l,Bool.and_assoc];rfl,by rw[d.n,a.n,a.l];exact(by decide:∀a b c d e:Bool,((a||(b&&c))||((b&&d)&&e))=(a||(b&&(c||(d&&e))))) _ _ _ _ _,by have t9:=a.m;have:=d.m;exact ik (.a ja (.m 2 jb)) (.a (.a jc (.m 2 jd)) (.m 12 (.a je jf))) [.a (.a jg (.m 2 jh)) (.a (.a jc (.m 2 jd)) (.m 12 je)),.a (.a ja (.m 2 jb)) (.a (.a jg (.m 2 jh)) (.m 12 jf))] rfl t9 this⟩
theorem FO.O(h:Fp ni N x r)(s:GS ni N x.a y.a r r1 k)(ho:y.o=x.o)(nl:y.b<y.a.length)(hr:r1 y.b=(r x.b&&p.1))(hp:p.2=false)(hk:k<=12*c):FO ni N x y r r1 p c:=⟨⟨s.g,nl,λi hi=>aR (h.a i (ho▸hi)) s.b⟩,s.b,s.d,hr,by rw[ho,yX s.d h.a,hp,Ue],by have:=s.e;rw[ho];exact TG (.a ja (.m 2 jb)) (.a (.a jc (.m 2 jb)) (.m 12 jd)) [.a je (.m 12 jd),.a ja (.a jc je)] rfl hk this⟩
theorem GP.c'(h:GP ni N gs r){g:Nat}{w:V8}{ex:PV}(hn:now<gs.length)(he:ex=.f []\/ex=.f [.d 1])(hc:oM ni N b [(cn,w)]):∃r1,GS ni N gs (gH gs 7 now (jQ cn g pp w) ex) r r1 2/\r1 gs.length=(!bk (NB ni N) ⟨7,[now],jQ cn g pp w,ex⟩&&r now):=by
 obtain⟨v,h1,J⟩:=hc _ aj;obtain⟨r1,a,e⟩:=h.d' (g:=⟨7,[now],jQ cn g pp w,ex⟩) (show(7:Int)≠1 by decide) (λp hp=>aB.mp hp▸hn) ⟨show(7:Int)≠8 by decide,λJ=>⟨_,_,v,rfl,h1,he⟩⟩
 exact⟨r1,a,by rw[e];exact congrArg (_&& ·) (d7 _)⟩
theorem Rr{g:Nat}{w:V8}(hw:w≠some false)(hc:oM ni N b [(cn,w)]):bk (NB ni N) ⟨7,[now],jQ cn g pp w,.f []⟩=(b&&w==some true):=by
 obtain⟨v,h1,h2⟩:=hc _ aj;rw[<-h2 hw];show NB ni N (jQ cn g pp w)=_;unfold NB;show(match ni[cn]? with|some v=>N v|none=>false)=_
 rw[h1]
theorem FO.d'(h:Fp ni N x r){g:Nat}{w:V8}(hw:w≠some false)(hc:oM ni N b [(cn,w)]):∃r1,FO ni N x ⟨gH (gH x.a 7 x.b (jQ cn g pp w) (.f [.d 1])) 7 x.a.length (jQ cn g pp w) (.f []),x.a.length+1,x.o⟩ r r1 (!(b&&w==some true),false) 1:=by
 obtain⟨r1,s1,e1⟩:=h.g.c' (g:=g) (pp:=pp) (ex:=.f [.d 1]) h.b (.inr rfl) hc;have ll:x.a.length<(gH x.a 7 x.b (jQ cn g pp w) (.f [.d 1])).length:=by rw[gK];exact bD _
 obtain⟨r2,s2,e2⟩:=s1.g.c' (g:=g) (pp:=pp) (ex:=.f []) ll (.inl rfl) hc;rw[Rr hw hc,gK,e1]at e2
 exact⟨r2,.O h (s1.I s2) rfl (by show _<(gH (gH _ _ _ _ _) _ _ _ _).length;rw[gK,gK];exact bD _) (e2.trans (Bool.and_comm ..)) rfl (by decide)⟩
theorem FO.j'(h:Fp ni N x r){g:Nat}(hc:oM ni N b [(cn,some false)]):∃r1,FO ni N x ⟨gH x.a 7 x.b (jQ cn g pp (some false)) (.f [.d 1]),x.a.length,x.o⟩ r r1 (!(b&&some false==some true),false) 1:=by obtain⟨r1,s1,e1⟩:=h.g.c' (g:=g) (pp:=pp) (ex:=.f [.d 1]) h.b (.inr rfl) hc;exact⟨r1,.O h s1 rfl (by show _<(gH _ _ _ _ _).length;rw[gK];exact bD _) (e1.trans (by induction b<;>exact(gg _).symm)) rfl (by decide)⟩
theorem L7{x0 x1 x2 x3 x4 o1 o2 o3 cz:Nat}(h1:x1<=x0+4)(h2:x2+2*o2<=x1+2*o1+12*cy)(h3:x3+2*o3<=x2+2*o2+12*cz)(h4:x4<=x3+(1+2)):x4+2*o3<=x0+2*o1+12*(cy+cz+1):=by exact zr (.a ja (.m 2 jb)) (.a (.a jc (.m 2 jd)) (.m 12 (.a (.a je jf) aU))) [.a jg (.a jc qz),.a (.a jh (.m 2 ji)) (.a (.a jg (.m 2 jd)) (.m 12 je)),.a (.a jk (.m 2 jb)) (.a (.a jh (.m 2 ji)) (.m 12 jf)),.a ja (.a jk (.a aU iH))] rfl h1 h2 h3 h4
theorem Tt{a c d:Bool}(h:a=c)(h':b=d):(a||b)=(c||d):=by rw[h,h']
noncomputable abbrev Uo(a:V8)(p q:Bool×Bool):Bool×Bool:=match a with
 |none=>(p.1||q.1,p.2||q.2)
 |some true=>p
 |some false=>q
theorem SA(o n:Bool)(p q:Bool×Bool):∀a:V8,(((n&&a != some false)&&p.1)||(((n&&a != some true)&&q.1)||false))=(n&&(Uo a p q).1)/\((o||((n&&a != some false)&&p.2))||((n&&a != some true)&&q.2))=(o||(n&&(Uo a p q).2))
 |none=>(by decide:∀o n b c d e:Bool,(((n&&true)&&b)||(((n&&true)&&c)||false))=(n&&(b||c))/\((o||((n&&true)&&d))||((n&&true)&&e))=(o||(n&&(d||e)))) o n _ _ _ _
 |some true=>(by decide:∀o n b c d e:Bool,(((n&&true)&&b)||(((n&&false)&&c)||false))=(n&&b)/\((o||((n&&true)&&d))||((n&&false)&&e))=(o||(n&&d))) o n _ _ _ _
 |some false=>(by decide:∀o n b c d e:Bool,(((n&&false)&&b)||(((n&&true)&&c)||false))=(n&&c)/\((o||((n&&false)&&d))||((n&&true)&&e))=(o||(n&&e))) o n _ _ _ _
theorem FO.i'{u:V7×Nat×Nat}{r3:Nat->Bool}{a:V8}{oy oz:Bool×Bool}{cz:Nat}(h:Fp ni N x r)(s1:GS ni N x.a u.1 r r1 4)(l2:u.2.2<u.1.length)(e1:r1 u.2.1=(r x.b&&a != some false))(e2:r1 u.2.2=(r x.b&&a != some true))(F:FO ni N (g8 x u) y r1 r2 oy cy)(H:FO ni N ⟨y.a,u.2.2,y.o⟩ z r2 r3 oz cz):
  ∃r1,FO ni N x (II z y.b) r r1 (Uo a oy oz) (cy+cz+1):=by
 obtain⟨r4,s4,l4,e4⟩:=H.p.g.e' (fl:=[y.b,z.b]) (xA.mpr ⟨aR F.p.b H.f,xA.mpr ⟨H.p.b,λJ h=>nomatch h⟩⟩)
 have f3:=(F.j _ l2).trans e2;have e5:r4 (j9 z.a [y.b,z.b]).2=(r3 y.b||(r3 z.b||false)):=e4;exact⟨r4,⟨s4.g,l4,λp hp=>aR (H.p.a p hp) s4.b⟩,aA s1.b (aA F.f (aA H.f s4.b)),λi hi=>
   have h1:=aR hi s1.b;have h2:=aR h1 F.f
   (s4.d i (aR h2 H.f)).trans ((H.j i h2).trans ((F.j i h1).trans (s1.d i hi))),
  (e5.trans (Tt ((H.j _ F.p.b).trans (F.l.trans (congrArg (· &&_) e1))) (Tt (H.l.trans (congrArg (· &&_) f3)) rfl))).trans (SA false ..).1,
  ((yX s4.d H.p.a).trans (H.n.trans (Tt (F.n.trans (Tt (yX s1.d h.a) (congrArg (· &&_) e1))) (congrArg (· &&_) f3)))).trans (SA ..).2,
  L7 s1.e F.m H.m s4.e⟩
theorem GP.i'{y:Nat}(h:GP ni N (a++g::e) r)(a0:0<a.length)(hy:y<(a++g::e).length)(hr:r y=true->r a.length=true):GS ni N (a++g::e) (tG (a++g::e) a.length y) r r 1:=by
 rw[zN];split
 .exact⟨h.j' a0 hy hr,bZ (by rw[aa,aa];rfl),λJ J=>rfl,by rw[r6,r6,dZ];refine bY (bZ ?_) _;show 1+(g.a++[y]).length+qU e=1+g.a.length+qU e+1;rw[aa,<-dZ,i6];rfl⟩
 .exact⟨h,aH _,λJ J=>rfl,bL _⟩
theorem KR{x0 x1 x2 x3 x4 x5 o:Nat}(h1:x1<=x0+2)(h2:x2<=x1+4)(h3:x3+2*o<=x2+2*0+12*cy)(h4:x4<=x3+1)(h5:x5<=x4+(1+(o+1))):x5<=x0+12*(cy+1):=by exact ik ja (.a jb (.m 12 (.a jc aU))) [.a jd (.a jb iH),.a je (.a jd qz),.a (.a jf (.m 2 jg)) (.a (.a je (.m 2 fU)) (.m 12 jc)),.a jh (.a jf aU),.a ja (.a jh (.a aU (.a jg aU)))] rfl h1 h2 h3 h4 h5
theorem Zi(n q:Bool):∀c:Bool,((n&&wa c != some true)||(false||((n&&wa c != some false)&&q)))=(n&&(!c||q))
 |true=>(by decide:∀n q:Bool,((n&&false)||(false||((n&&true)&&q)))=(n&&(false||q))) n q
 |false=>(by decide:∀n q:Bool,((n&&true)||(false||((n&&true)&&q)))=(n&&(true||q))) n q
theorem FO.f'{u:V7×Nat×Nat}{r3:Nat->Bool}{c:Bool}{oy:Bool×Bool}(h:Fp ni N x r)(s1:GS ni N x.a g1 r r1 2)(e0:r1 x.a.length=r x.b)(l0:x.a.length<g1.length)(s2:GS ni N g1 u.1 r1 r2 4)(l2:u.2.2<u.1.length)(e1:r2 u.2.1=(r1 x.a.length&&wa c != some false))(e2:r2 u.2.2=(r1 x.a.length&&wa c != some true))(F:FO ni N ⟨u.1,u.2.1,[]⟩ y r2 r3 oy cy)(he:y.a=x.a++⟨3,[x.b],.h,.f []⟩::e):
  ∃r1,FO ni N x (N4 x u.2.2 y) r r1 (!c||oy.2,false) (cy+1):=by
 have f0:r3 x.a.length=r x.b:=(F.j _ (aR l0 s2.b)).trans ((s2.d _ l0).trans e0);have f1:r3 y.b=true->r3 x.a.length=true:=λhy=>by
  rw[f0,<-e0];have:=F.l.symm.trans hy;rw[show r2 (jq.mk u.1 u.2.1 []).b=_ from e1,bg,bg]at this
  exact this.1.1
 have s3:GS ni N y.a (tG y.a x.a.length y.b) r3 r3 1:=by
  have:=F.p.g;have nl:=F.p.b;rw[he]at this nl⊢
  exact this.i' h.g.O nl f1
 obtain⟨r4,s4,l4,e4⟩:=s3.g.e' (fl:=u.2.2::y.o) (xA.mpr ⟨aR l2 (aA F.f s3.b),λp hp=>aR (F.p.a p hp) s3.b⟩)
 have e5:r4 (j9 (tG y.a x.a.length y.b) (u.2.2::y.o)).2=(r3 u.2.2||y.o.any r3):=e4;have ex:=aA s1.b (aA s2.b (aA F.f (aA s3.b s4.b)));have ag:∀i,i<x.a.length->r4 i=r i:=λi hi=>
  have h1:=aR hi s1.b;have h2:=aR h1 s2.b;have h3:=aR h2 F.f
  (s4.d i (aR h3 s3.b)).trans ((s3.d i h3).trans ((F.j i h2).trans ((s2.d i h1).trans (s1.d i hi))))
 have k2:=e2.trans (congrArg (· &&_) e0);have k1:=e1.trans (congrArg (· &&_) e0);exact⟨r4,.O (k:=12*(cy+1)) h ⟨s4.g,ex,ag,KR s1.e s2.e F.m s3.e s4.e⟩ rfl l4 ((e5.trans (Tt ((F.j _ l2).trans k2) (F.n.trans (Tt rfl (congrArg (· &&_) k1))))).trans (Zi ..)) rfl (aH _)⟩
theorem oM.q'{l m:List (Nat×V8)}(h:oM ni N b (l++m)):oM ni N b l:=λe he=>h e (b9 _ he)
theorem oM.p'{l m:List (Nat×V8)}(h:oM ni N b (l++m)):oM ni N b m:=λe he=>h e (bw _ he)
theorem FO.I{F:jq->jq}(h:Fp ni N x r)(H:∃r1,FO ni N x (F x) r r1 q c):∃r1,FO ni N x (if x.b=0 then x else F x) r r1 q c:=by
 by_cases h0:x.b=0
 .rw[if_pos h0];exact⟨r,.e' h h0⟩
 .rw[if_neg h0];exact H
def kS(ni:S1)(N:Int->Bool)(b:Bool)(cs:List (Nat×V8))(F:jq->jq)(o:Bool×Bool)(z:Nat):Prop:=∀⦃x:jq⦄ ⦃r:Nat->Bool⦄,oM ni N b cs->Fp ni N x r->∃r1,FO ni N x (F x) r r1 o z
mutual
theorem Sm.p':∀m:Sm,kS ni N b m.j' m.V (m.i' b) m.g'
 |.D .. =>λx r hc h=>⟨r,.c' h⟩
 |.L .. =>λx r hc h=>⟨r,.c' h⟩
 |.E .. =>λx r hc h=>FO.I (F:=λx=>⟨x.a,0,x.o++[x.b]⟩) h ⟨r,.k' h⟩
 |.M .. =>λx r hc h=>⟨r,.V h⟩
 |.C _ cn g p none=>λx r hc h=>FO.I (F:=λx=>⟨_,_,x.o⟩) h (FO.d' h (λh=>nomatch h) hc)
 |.C _ cn g p (some true)=>λx r hc h=>FO.I (F:=λx=>⟨_,_,x.o⟩) h (FO.d' h (λh=>nomatch h) hc)
 |.C _ cn g p (some false)=>λx r hc h=>FO.I (F:=λx=>⟨_,_,x.o⟩) h (FO.j' h hc)
 |.B _ q p c y=>λx r hc h=>FO.I (F:=λx=>N4 x (nh x q p c).2.2 (y.V ⟨(nh x q p c).1,(nh x q p c).2.1,[]⟩)) h (by
   obtain⟨r1,s1,e0⟩:=h.g.V (kind:=3) (nd:=.h) (ex:=.f []) h.b (by decide) (by decide) (by decide)
   have l0:x.a.length<(gH x.a 3 x.b .h (.f [])).length:=by rw[gK];exact bD _
   obtain⟨r2,s2,l1,l2,e1,e2⟩:=s1.g.f' (nd:=dM q p (wa c)) l0 (wa c);obtain⟨e,he,J⟩:=uY (kW.g' (y.f' ⟨(nh x q p c).1,(nh x q p c).2.1,[]⟩).g);obtain⟨r3,F⟩:=y.m' (x:=⟨(nh x q p c).1,(nh x q p c).2.1,[]⟩) hc ⟨s2.g,l1,λJ h=>nomatch h⟩
   exact FO.f' h s1 e0 l0 s2 l2 e1 e2 F he)
 |.o _ q p a y z=>λx r hc h=>FO.I (F:=λx=>II (z.V ⟨(y.V (g8 x (cS x.a x.b a (dM q p a)))).a,(cS x.a x.b a (dM q p a)).2.2,(y.V (g8 x (cS x.a x.b a (dM q p a)))).o⟩) (y.V (g8 x (cS x.a x.b a (dM q p a)))).b) h (by
   obtain⟨r1,s1,l1,l2,e1,e2⟩:=h.g.f' (nd:=dM q p a) h.b a;obtain⟨r2,F⟩:=y.m' (x:=g8 x (cS x.a x.b a (dM q p a))) (oM.q' hc) ⟨s1.g,l1,λp hp=>aR (h.a p hp) s1.b⟩
   obtain⟨r3,H⟩:=z.m' (x:=⟨(y.V (g8 x (cS x.a x.b a (dM q p a)))).a,(cS x.a x.b a (dM q p a)).2.2,(y.V (g8 x (cS x.a x.b a (dM q p a)))).o⟩) (oM.p' hc) ⟨F.p.g,aR l2 F.f,F.p.a⟩;exact FO.i' h s1 l2 e1 e2 F H)
theorem Bk.m':∀m:Bk,kS ni N b m.i' m.V (m.e' b) m.c'
 |.mk _ _ ss=>λx r hc h=>FO.I (F:=ss.c') h (ss.j' hc h)
theorem Ss.j':∀m:Ss,kS ni N b m.f' m.c' (m.d' b) m.J
 |.g=>λx r hc h=>⟨r,.V h⟩
 |.c s t=>λx r hc h=>by obtain⟨r1,F⟩:=s.p' (oM.q' hc) h;obtain⟨r2,H⟩:=t.j' (oM.p' hc) F.p;exact⟨r2,F.g' H⟩
end

mutual
noncomputable def Tr.e':Tr->WL
 |.a id k w _ _ ks=>(if k=18 then[(id,w)]else[])++(if k=27 then[]else ks.f')
noncomputable def Ks.f':Ks->WL
 |.a=>[]
 |.c r=>r.f'
 |.b t r=>t.e'++r.f'
end
noncomputable def qh(l:aac):WL:=l.flatMap Tr.e'
theorem Dm:∀k:Ks,k.f'=qh k.I
 |.a=>rfl
 |.c r=>Dm r
 |.b t r=>congrArg (t.e'++ ·) (Dm r)
theorem we(a b:aac):qh (a++b)=qh a++qh b:=oZ
def M8(ni:S1)(e:Nat×PV)(v:Int):Prop:=∃w,e.2=pW w/\w≠none/\ni[e.1]?=some v
def Tf(ni:S1)(l:WL):Prop:=∀e∈l,(∃w,e.2=pW w)/\∃v,ni[e.1]?=some v
abbrev fx:EV:=B6 (IM (bx 10) true) (jG .c (fT (bx 9) 0) (jP 44))
noncomputable abbrev Ob(a0 a1 a2 a3 a5 a7:PV)(a9 a10:S7):dj:=[some (.a a0),some (.a a1),some (.a a2),some (.a a3),some (.a (.e 6)),some (.a a5),some (.a (.e 26)),some (.a a7),some (.b 0 2),a9,a10]
def kA(a0 a1 a2 a3 a5 a7:PV)(k:S3->St->Prop)(s:St)(id:Nat)(kd g q:Int)(w:PV)(K0:Ks)(t:aac)(v:S3):Prop:=∀⦃p:S3⦄ ⦃a:S3⦄,k (a++(if kd=27 then[]else t.map Tr.I)) s->
  compLoop (.inl 10) (.a (p++v)) fx (bx 10) (Ob a0 a1 a2 a3 a5 a7 (some (.a (Tr.I (.a id kd w g q K0)))) none) (v.length+1) p.length a s k
theorem zD{a3 a5 a7:PV}{k:S3->St->Prop}{kd g q:Int}{K0:Ks}:∀{ks:Ks},kA a0 a1 a2 a3 a5 a7 k s id kd g q w K0 ks.I ks.J
 |.a=>λp a h=>by exact cG rfl (w7 pK (by rw[show Ks.a.I.map Tr.I=[]from rfl,ite_self,az]at h;exact h))
 |.c r=>λp a h=>by
  have ih:kA a0 a1 a2 a3 a5 a7 k s id kd g q w K0 r.I r.J:=zD;have:=ih (p:=p++[.h]) (a:=a) h;rw[aK,aa]at this
  exact cG rfl (uh nE this)
 |.b (.a i2 kd2 w2 g2 q2 k2) r=>λp a h=>by
  have ih:kA a0 a1 a2 a3 a5 a7 k s id kd g q w K0 r.I r.J:=zD;have go:=λa' h=>ih (p:=p++[Tr.I (.a i2 kd2 w2 g2 q2 k2)]) (a:=a') h
  rw[aK,aa]at go
  refine cG rfl (uh nE ?_);refine nu (b:=kd != 27) (p:=kd≠27) bne_iff_ne (λh2=>go _ ?_) λh2=>go _ ?_
  .rw[if_pos (Decidable.not_not.mp h2)]at h⊢;exact h
  .rw[if_neg h2]at h⊢
   rw[aK];exact h
abbrev fA(cl:CL):XV:=bU (gJ 9 (oJ cl (bx 8) 37 d9)) (bU (um (B6 (jG .a (fT (bx 9) 0) (jP 63)) (jG .c (fT (bx 9) 1) (bN (.k "plain")))) (bU (mZ (bx 6) (fT (bx 9) 5) (bN (.d 1))) eG) eG) (bU (uS 8 (xr .a (bx 8) (sI false (vK (bx 10) (.inl 10) (fT (bx 9) 2) fx)))) eG))
def ke(f:Fc)(S:S1):Fc:= {f with j:=gD S}
theorem QH{S:S1}{A:Prop}{B:S8->Prop}(hw:(∃w',w=pW w')/\∃v,ni[id]?=some v)(hs:S.length<100000)(hA:(∀v,v∈S↔v∈S\/M8 ni (id,w) v)->A)(hB:∀S':S1,S'.length<=S.length+1->(∀v,v∈S'↔v∈S\/M8 ni (id,w) v)->B (gD S')):
  ob (AA s (.a w) (.a (.k "plain"))) λb=>tb (some b) A (ob ni[id]? λv=>gb (decide ((gD S).length<100000)) (B (cY (.d v) (.d 1) (gD S)))):=by
 obtain⟨⟨w',rfl⟩,v,hv⟩:=hw;have yes:w'≠none->B (cY (.d v) (.d 1) (gD S)):=λhw=>by
  rw[sS];exact hB _ (by unfold lN;split;exact bL _;exact bZ aa) λu=>by
   rw[pn];refine or_congr xP ⟨λh=>⟨w',rfl,hw,h▸hv⟩,λ⟨_,_,_,h⟩=>?_⟩
   rw[show ni[(id,pW w').1]?=some v from hv]at h
   exact(aq h).symm
 obtain _|_|_:=w'
 .exact hA λu=>⟨.inl,λh=>h.resolve_right λ⟨w',h1,h2,_⟩=>by
   obtain _|_|_:=w'
   .exact h2 rfl
   .cases h1
   .cases h1⟩
 .exact cG (o:=ni[id]?) hv (yG hs (yes (by decide)))
 .exact cG (o:=ni[id]?) hv (yG hs (yes (by decide)))
abbrev XL(cl:CL)(d:ah)(X:S3)(f:Fc)(rg:V5)(ni:S1)(loc:dj)(cr:V6)(j:Nat)(k:KX)(D:S8):Prop:=bU (uS 8 (xr .a (bx 8) (sI false (vK (bx 10) (.inl 10) (fT (bx 9) 2) fx)))) eG loc (S4 d X (Fc.I {f with j:=D}) (cr::rg) ni) λfl loc s=>lb fl (ee (jG .d (XA .a (bx 8)) (bN (.d 0))) (fA cl) j loc s k) (k fl loc s)
set_option maxHeartbeats 1000000 in
def NLo(d:ah)(X:S3)(f:Fc)(rg:V5)(ni:S1)(cl:CL)(a0 a1 a2 a3 a5 a7:PV)(c0 c1:ah)(k:KX)(j:Nat):Prop:=∀{st:aac}{S:S1}{a9:S7},iN st<j->S.length+iN st<50000->Tf ni (qh st)->
  (∀S' a9,(∀v,v∈S'↔v∈S\/∃e∈qh st,M8 ni e v)->k .a (Ob a0 a1 a2 a3 a5 a7 a9 none) (S4 d X (ke f S').I ([c0,c1,.a []]::rg) ni))->
  ee (jG .d (XA .a (bx 8)) (bN (.d 0))) (fA cl) j (Ob a0 a1 a2 a3 a5 a7 a9 none) (S4 d X (ke f S).I ([c0,c1,.a (st.map Tr.I)]::rg) ni) k
theorem Ey{a3 a5 a7:PV}{c0 c1:ah}{k:KX}(j:Nat):NLo d X f rg ni cl a0 a1 a2 a3 a5 a7 c0 c1 k j:=by
 induction j with
 |zero=>exactλ{st S a9} hf hl ok K=>absurd hf (jn _)
 |succ j ih=>
  intro st S a9 hf hl ok K;rcases mV st with rfl|⟨b,x,rfl⟩
  .exact K S _ (λv=>⟨.inl,λh=>h.resolve_right λ⟨_,h,_⟩=>nomatch h⟩)
  .rw[mY]at *
   obtain⟨id,kd,w,g,p,ks⟩:=x;have ea:qh (b++[.a id kd w g p ks])=qh b++((if kd=18 then[(id,w)]else[])++if kd=27 then[]else qh ks.I):=by rw[we];exact congrArg (qh b++ ·) ((az _).trans (by rw[Tr.e',Dm]))
   rw[ea]at ok K
   rw[nt]at hf hl
   have s1:iN [Tr.a id kd w g p ks]=ks.O+1:=rfl;have sk:=rC ks;generalize hc:(if kd=27 then[]else ks.I)=c
   have ec:(if kd=27 then[]else ks.I.map Tr.I)=c.map Tr.I:=by rw[<-hc];split<;>rfl
   have el:(if kd=27 then[]else qh ks.I)=qh c:=by rw[<-hc];split<;>rfl
   have sc:iN c<=iN ks.I:=by rw[<-hc];split;exact bI _;exact aH _
   have sl:=p9 (b++c);have sa:=nt b c;rw[el]at ok K
   have go:∀S':S1,S'.length<=S.length+1->(∀v,v∈S'↔v∈S\/∃e∈(if kd=18 then[(id,w)]else[]),M8 ni e v)->
     XL cl d X f rg ni (Ob a0 a1 a2 a3 a5 a7 (some (.a (Tr.I (.a id kd w g p ks)))) none) [c0,c1,.a (b.map Tr.I)] j k (gD S'):=λS' hS hm=>by
    refine dP (show ks.J.length<=100000 by have:=vq ks;exact TG ja aX [.b (.a jb (.a jc jd)) aI,.e jd (.a je aU),.a ja je] rfl hl s1 this) (zD (p:=[]) ?_)
    rw[List.nil_append,ec];have e:b.map Tr.I++c.map Tr.I=(b++c).map Tr.I:=(aD ..).symm;refine dP (show(b.map Tr.I).length+(c.map Tr.I).length<=100000 by rw[<-aa,e,ao];exact ik ja aX [.b (.a jb (.a jc jd)) aI,.e jd (.a je aU),.a jf je,.a jg jf,.a ja jh,.f jh (.a jc jg)] rfl hl s1 sk sc sl sa) ?_
    show ee _ _ j (Ob a0 a1 a2 a3 a5 a7 (some (.a (Tr.I (.a id kd w g p ks)))) none) (S4 d X (ke f S').I ([c0,c1,.a (b.map Tr.I++c.map Tr.I)]::rg) ni) _;rw[e];have ok2:=ok;refine ih (by exact jT7 ja jb [.b (.a jc jd) (.a jb aU),.e jd (.a je aU),.a jf je,.a jg jf,.f ja (.a jc jg)] rfl hf s1 sk sc sa) (by exact jT8 (.a ja jb) aI [.b (.a jc (.a jd je)) aI,.e je (.a jf aU),.a jg jf,.a jh jg,.f jb (.a jd jh),.a ja (.a jc aU)] rfl hl s1 sk sc sa hS) (λe he=>ok e ?_) λS2 a9 h2=>K S2 a9 (λv=>(h2 v).trans ?_)
    .rw[we,aS]at he
     exact aS.mpr (he.imp (λh=>h) (bw _))
    .rw[hm,we];simp only[aS,or_and_right,exists_or,or_assoc,or_left_comm]
   refine kL (decide_eq_true A5) (cG vW ?_);rw[vX];show tb (some (kd==18)) _ (ob (AA _ (.a w) (.a (.k "plain"))) _);refine nu (p:=kd=18) beq_iff_eq (λh=>fW (beq_eq_false_iff_ne.mpr h) (go S (bL _) λv=>?_)) λh=>?_
   .rw[if_neg h];exact⟨.inl,λh=>h.resolve_right λ⟨_,h,_⟩=>nomatch h⟩
   .rw[if_pos h]at ok go
    have up:∀{S':S1},(∀v,v∈S'↔v∈S\/M8 ni (id,w) v)->∀v,v∈S'↔v∈S\/∃e∈[(id,w)],M8 ni e v:=λh2 v=>(h2 v).trans (or_congr xP ⟨λh=>⟨_,aj,h⟩,λ⟨e,he,h⟩=>aB.mp he▸h⟩)
    refine QH (ni:=ni) (id:=id) (w:=w) (S:=S) (B:=XL cl d X f rg ni (Ob a0 a1 a2 a3 a5 a7 (some (.a (Tr.I (.a id kd w g p ks)))) none) [c0,c1,.a (b.map Tr.I)] j k) (ok _ (bw _ aj)) (by exact lS ja aX [.b (.a ja (.a jb jc)) aI] rfl hl) (λh2=>?_) λS' h1 h2=>?_
    .exact go S (bL _) (up h2)
    .exact go S' h1 (up h2)

variable{w1 w:ah}{k:KP}
def I5(w1 w:ah):V6:=[w1,w,grI,.a [.d 0],.f [[]],.a [.h],.a [.f []],.e false []]
noncomputable def g0:V7:=[⟨0,[],.h,.f []⟩]
def rJ(w1 w:ah)(gs:V7)(gx:S8)(gv sv:PV)(sm nv:S8):Fc:=fg ⟨w1,w,[],[],[],[],gx,[],[],⟨eL,eL,gv,sv,0⟩,sm,[],[],[],[],nv,[]⟩ gs
abbrev BX(how:Int):PV:=if how=1 then .m 6 [.e 26,eD]else .h
theorem wm{fn:PV}(hh:how∈[(0:Int),1,2])(K:k (.e 17) (S4 d X (rJ w1 w g0 [] .h (BX how) qY []).I rg ni)):
  av (n+3) 89 [.a (.e 1),.a .h,.a fn,.a (.d how),.a (.e 6)] (S4 d X (I5 w1 w) rg ni) k:=by
 rw[cO];revert how K;exact @kM _ _ _ _ (by kernel_rfl)
theorem Hf{fn b:PV}(K:k (.e 17) (S4 d X (rJ w1 w g0 [] .h .h qY []).I rg ni)):
  av (n+3) 89 [.a (.e 1),.a b,.a fn,.a (.d 2),.a (.e 6)] (S4 d X (I5 w1 w) rg ni) k:=by
 rw[cO];revert K;exact @kO _ _ (by kernel_rfl)

end
section
variable{n:Nat}{d w1 w:ah}{X:S3}{rg:V5}{ni:S1}{k:KP}
def jw(l:S5)(n:Nat):CL:=λf args s k=>Bool.rec (gI n f args s k) (av n f args s k) (l.any (Nat.beq f))
theorem CX{l:S5}:jw l n=av n:=by
 funext f args s k;show Bool.rec (motive:=λJ=>Prop) _ _ (l.any (Nat.beq f))=_
 induction l.any (Nat.beq f)
 .rw[cO]
 .rfl
theorem fP(l:S5){f:Nat}{args:WC}{s:St}(h:ny (jw l n) f args s k):av (n+1) f args s k:=by rw[CX]at h;exact in_w h
def g1(fn:PV):V7:=g0++[⟨1,[],fn,.f []⟩]
abbrev shA(cl:CL):XV:=bU (gJ 8 (tD (bO (bx 1) d9))) (bU (yD (jG .d (XA .a (bx 8)) (bN (.d 0))) (fA cl)) eG)
abbrev IH(cl:CL):XV:=bU (um (jG .a (bx 3) (bN (.d 1))) (bU (o7 (bx 5) 46 (NW cl 6 (bO (bx 6) (bO (sI false (S0 SV)) d9)))) eG) eG) (bU (mZ (fT (bx 5) 70) (jP 55) (NW cl 19 d9)) (bU (mZ (fT (bx 5) 70) (jP 42) (NW cl 20 d9)) (bU (Iw (bx 5)) eG)))
noncomputable abbrev d5(b fn:PV)(how:Int):dj:=[some (.a (.e 1)),some (.a b),some (.a fn),some (.a (.d how)),some (.a (.e 6)),some (.a (.e 17)),some (.a (.e 26)),some (.a (.d 1)),none,none,none]
def shK(cl:CL)(b fn:PV)(how:Int)(k:KP)(v:PV)(s:St):Prop:=fT (bx 4) 26 (d5 b fn how) s λov s=>fT (bx 2) 5 (d5 b fn how) s λiv s=>rD ov iv (.a v) s λs=>shA cl (d5 b fn how) s λfl loc s=>fb fl (IH cl loc s (eF k)) (eF k fl loc s)
theorem Ek{id:Nat}{b:PV}{vs:S3}{how:Int}(hh:how∈[(0:Int),1])(hb:∃bi Nj,b=.l bi Nj)(K:av (n+2) 84 [.a (.e 6),.a b,.a (.d 1),.b 0 1] (S4 d X (rJ w1 w (g1 (.l id vs)) [] (.e 6) .h [] []).I ([.d,.a []]::rg) ni) (shK (jw [84] (n+2)) b (.l id vs) how k)):
  av (n+3) 89 [.a (.e 1),.a b,.a (.l id vs),.a (.d how),.a (.e 6)] (S4 d X (I5 w1 w) rg ni) k:=by
 obtain⟨bi,Nj,rfl⟩:=hb;refine fP [84] ?_;revert how K;exact @kM _ _ _ _ (by kernel_rfl)
theorem Ej{f:Fc}{id:Nat}{b:PV}{vs:S3}{how:Int}{a9:S7}{c0 c1:ah}(hh:how∈[(0:Int),1])(K:k (.e 17) (S4 d X (Fc.I {f with x:= {f.x with b:=if how=1 then .m 6 [.e 26,eD]else f.x.b},k:=qY}) rg ni)):
  IH (jw [84] (n+2)) (Ob (.e 1) b (.l id vs) (.d how) (.e 17) (.d 1) a9 none) (S4 d X (Fc.I {f with k:=[]}) ([c0,c1,.a []]::rg) ni) (eF k):=by
 revert how K;exact @kM _ _ _ _ (by kernel_rfl)
theorem Hh{o:MV}{i:Int}{v:PV}{s:St}{k:St->Prop}{kvs:S8}(e:l9 s o=some (.e false kvs))(hl:kvs.length<100000)(h:k (pA s o (.e false (cY (.d i) v kvs)))):rD o (.a (.d i)) (.a v) s k:=by show ob (l9 s o) _;rw[e];exact dP hl h
theorem El{m:Bk}{id:Nat}{vs:S3}{t6 how:Int}(hh:how∈[(0:Int),1])(hf:ni[id]?=some t6)(hz:m.c'<=10000)(hs:m.I.O<40000)(ok:Tf ni m.I.e')
  (K:∀S,(∀v,v∈S↔∃e∈m.I.e',M8 ni e v)->k (.e 17) (S4 d X (rJ w1 w (m.V ⟨g1 (.l id vs),1,[]⟩).a [(.d t6,.d (m.V ⟨g1 (.l id vs),1,[]⟩).b)] (.e 6) (BX how) qY (gD S)).I rg ni)):
  av (n+m.d'+3) 89 [.a (.e 1),.a m.I.I,.a (.l id vs),.a (.d how),.a (.e 6)] (S4 d X (I5 w1 w) rg ni) k:=by
 refine Ek hh (by induction m using Bk.casesOn;exact⟨_,_,rfl⟩) ?_
 refine Bk.n' m (x:=⟨g1 (.l id vs),1,[]⟩) (e:=0) (i:=1) rfl ⟨show 2+4*m.c'<=50000 by exact kQ (.a iH (.m 4 ja)) aI [.s 4 (.a ja (.n 10000))] rfl hz,show 0+m.c'<=50000 by exact kQ (.a fU ja) aI [.a ja (.n 10000)] rfl hz⟩ ?_
 generalize m.V ⟨g1 (.l id vs),1,[]⟩=y at *
 refine cG (o:=ni[id]?) hf ?_;show rD (.a (.e 11)) (.a (.d t6)) _ _ _;refine Hh (kvs:=[]) rfl (by decide) ?_
 refine Ey (f:=rJ w1 w y.a [(.d t6,.d y.b)] (.e 6) .h [] []) (S:=[]) (st:=[m.I]) 50000 (by show m.I.O+0<_;exact fJ (.a ja fU) aI [.b ja jt] rfl hs) (by show 0+(m.I.O+0)<_;exact fJ (.a fU (.a ja fU)) aI [.b ja jt] rfl hs) (by rw[show qh [m.I]=m.I.e' from az _];exact ok) λS' a9 h=>?_
 refine Ej (f:=rJ w1 w y.a [(.d t6,.d y.b)] (.e 6) .h [] (gD S')) hh ?_;rw[show qh [m.I]=m.I.e' from az _]at h
 exact K S' λv=>(h v).trans ⟨λh=>h.resolve_left λh=>(nomatch h),.inr⟩

variable{gs:V7}
noncomputable def oV:Option Tr->PV
 |none=>.h
 |some t=>t.I
noncomputable def Ks.c':Ks->List (Option Tr)
 |.a=>[]
 |.c r=>none::r.c'
 |.b t r=>some t::r.c'
theorem DB:∀k:Ks,k.J=k.c'.map oV
 |.a=>rfl
 |.c r=>congrArg (PV.h:: ·) (DB r)
 |.b t r=>congrArg (t.I:: ·) (DB r)
theorem vU:∀k:Ks,k.I=k.c'.filterMap id
 |.a=>rfl
 |.c r=>vU r
 |.b t r=>congrArg (t:: ·) (vU r)
mutual
noncomputable def Tr.d':Tr->aac
 |.a id k w f p ks=>if k=52 then[.a id k w f p ks]else if k≠27/\k≠61 then ks.d' else[]
noncomputable def Ks.d':Ks->aac
 |.a=>[]
 |.c r=>r.d'
 |.b t r=>t.d'++r.d'
end
noncomputable def pX(l:aac):aac:=l.flatMap Tr.d'
theorem zu:∀k:Ks,k.d'=pX k.I
 |.a=>rfl
 |.c r=>zu r
 |.b t r=>congrArg (t.d'++ ·) (zu r)
variable{pm:V6}
abbrev Ul(cl:CL):XV:=bU (um (IM (bx 4) true) (bU (xD (oJ cl (bx 2) 10 (bO (bx 4) d9))) eG) eG) eG
noncomputable abbrev IW(a0:PV)(a3 a4:S7):dj:=[some (.a a0),some (.b 0 0),some (.b 0 1),a3,a4]
noncomputable def Uk(S:S3):Option Tr->S3
 |none=>S
 |some t=>S++[t.I]
theorem v5:∀(l:List (Option Tr))(S:S3),l.foldl Uk S=S++(l.filterMap id).map Tr.I
 |[],S=>(az _).symm
 |none::l,S=>v5 l S
 |some t::l,S=>(v5 l _).trans (aK ..)
theorem Hz{cl:CL}{c:ah}{ks:Ks}{S:S3}{k:KX}{a0:PV}{a3 a4:S7}(hl:S.length+ks.J.length<100000)(K:∀a4,k .a (IW a0 a3 a4) ⟨pm,[c,.a (S++(ks.I.map Tr.I).reverse)]::rg,ni⟩):
  forLoop (.inl 4) (.a ks.J.reverse) (Ul cl) (ks.J.reverse.length+1) 0 (IW a0 a3 a4) ⟨pm,[c,.a S]::rg,ni⟩ k:=by
 have e1:ks.J.reverse=ks.c'.reverse.map oV:=by rw[DB,List.map_reverse]
 rw[e1];rw[DB,ao]at hl
 have e2:ks.c'.reverse.foldl Uk S=S++(ks.I.map Tr.I).reverse:=by rw[v5,List.filterMap_reverse,List.map_reverse,vU]
 refine k8 (⟨λa J=>IW a0 a3 a,λS=>⟨pm,[c,.a S]::rg,ni⟩,λm S=>S.length+m<100000⟩:Fo (S7) (S3)) Uk (vs:=ks.c'.reverse) (λJ J=>rfl) (ao ..) (by rw[cM];exact hl) (λJ a=>by rw[e2];exact K a) λm a x v J hx=>?_
 obtain _|⟨i,kd,w,f,p,k2⟩:=v
 .exact⟨Nat.lt_of_succ_lt hx,λq hq=>hq _⟩
 .exact⟨by show(x++[_]).length+m<_;rw[aa];show x.length+1+m<_;change x.length+(m+1)<_ at hx;exact fh (.a (.a ja aU) jb) aX [.b (.a ja (.a jb aU)) aX] rfl hx,λq hq=>dP (by change x.length+(m+1)<_ at hx;exact fh ja aX [.b (.a ja (.a jb aU)) aX] rfl hx) (hq _)⟩
abbrev Xc(cl:CL):XV:=bU (gJ 3 (oJ cl (bx 2) 37 d9)) (bU (um (jG .a (fT (bx 3) 0) (jP 42)) (bU (xD (oJ cl (bx 1) 10 (bO (bx 3) d9))) eG) (bU (um (B6 (jG .c (fT (bx 3) 0) (jP 44)) (jG .c (fT (bx 3) 0) (jP 43))) (bU (BU (.inl 4) (Up (fT (bx 3) 2)) (Ul cl)) eG) eG) eG)) eG)
def ReL(pm:V6)(rg:V5)(ni:S1)(cl:CL)(a0:PV)(k:KX)(j:Nat):Prop:=∀{st out:aac}{a3 a4:S7},iN st<j->out.length+iN st<50000->(∀a3 a4,k .a (IW a0 a3 a4) ⟨pm,[.a ((out++pX st).map Tr.I),.a []]::rg,ni⟩)->
  ee (bx 2) (Xc cl) j (IW a0 a3 a4) ⟨pm,[.a (out.map Tr.I),.a (st.map Tr.I).reverse]::rg,ni⟩ k
theorem Lo{cl:CL}{a0:PV}{k:KX}(j:Nat):ReL pm rg ni cl a0 k j:=by
 induction j with
 |zero=>exactλ{st out a3 a4} hf hl K=>absurd hf (jn _)
 |succ j ih=>
  intro st out a3 a4 hf hl K;obtain _|⟨⟨id,kd,w,g,p,ks⟩,r⟩:=st
  .have:=K a3 a4;rw[show out++pX []=out from az _]at this
   exact this
  .have sz:iN (.a id kd w g p ks::r)=ks.O+1+iN r:=rfl;have sk:=rC ks;have sv:=vq ks;have sr:=p9 r;rw[sz]at hf hl
   have er:pX (.a id kd w g p ks::r)=(if kd=52 then[.a id kd w g p ks]else if kd≠27/\kd≠61 then pX ks.I else[])++pX r:=by show Tr.d' _++_=_;rw[Tr.d',zu];rfl
   rw[er]at K
   rw[dD,fM];refine kL (b:= !((r.map Tr.I).reverse++[Tr.I (.a id kd w g p ks)]).isEmpty) (by induction (r.map Tr.I).reverse using aQ<;>rfl) (cG (xy ..) ?_)
   rw[g5];show tb (some (kd==52)) _ _;refine nu (p:=kd=52) beq_iff_eq (λh=>?_) λh=>?_
   .rw[if_neg h]at K
    have XS:¬(kd≠27/\kd≠61)->ee (bx 2) (Xc cl) j (IW a0 (some (.a (Tr.I (.a id kd w g p ks)))) a4) ⟨pm,[.a (out.map Tr.I),.a (r.map Tr.I).reverse]::rg,ni⟩ k:=λh2=>by
     rw[if_neg h2]at K
     exact ih (by exact lS ja jb [.b (.a (.a jc aU) ja) (.a jb aU)] rfl hf) (by exact lS (.a ja jb) aI [.b (.a ja (.a (.a jc aU) jb)) aI] rfl hl) K
    show tb (some (kd != 27)) _ (tb (some (kd != 61)) _ _);refine nu (p:=kd≠27) bne_iff_ne (λh2=>fW (by rw[dg];exactλh=>h2 (bne_iff_ne.mp h)) (XS λh=>h2 h.1)) λh2=>?_
    refine nu (p:=kd≠61) bne_iff_ne (λh3=>XS λh=>h3 h.2) λh3=>?_
    rw[if_pos ⟨h2,h3⟩]at K
    show forLoop _ _ _ _ _ _ _ _;show forLoop (.inl 4) (.a ks.J.reverse) (Ul cl) (ks.J.reverse.length+1) 0 (IW a0 (some (.a (Tr.I (.a id kd w g p ks)))) a4) ⟨pm,[.a (out.map Tr.I),.a (r.map Tr.I).reverse]::rg,ni⟩ _;refine Hz (by rw[cM,ao];exact Oe (.a ja jb) aX [.b (.a jc (.a (.a jd aU) je)) aI,.a jb jd,.a ja je] rfl hl sv sr) λa4=>?_
    have e:(r.map Tr.I).reverse++(ks.I.map Tr.I).reverse=((ks.I++r).map Tr.I).reverse:=by rw[aD,List.reverse_append]
    rw[e];have sa:=nt ks.I r;exact ih (by exact Oe ja jb [.b (.a (.a jc aU) jd) (.a jb aU),.a je jc,.f ja (.a je jd)] rfl hf sk sa) (by exact Oe (.a ja jb) aI [.b (.a ja (.a (.a jc aU) jd)) aI,.a je jc,.f jb (.a je jd)] rfl hl sk sa) (by rw[show pX (ks.I++r)=pX ks.I++pX r from oZ];exact K)
   .rw[if_pos h]at K
    refine dP (by rw[ao];exact lS ja aX [.b (.a ja (.a (.a jb aU) jc)) aI] rfl hl) ?_
    have e:out.map Tr.I++[Tr.I (.a id kd w g p ks)]=(out++[Tr.a id kd w g p ks]).map Tr.I:=by rw[aD];rfl
    show ee (bx 2) (Xc cl) j (IW a0 _ a4) ⟨pm,[.a (out.map Tr.I++[Tr.I (.a id kd w g p ks)]),.a (r.map Tr.I).reverse]::rg,ni⟩ k;rw[e];exact ih (by exact lS ja jb [.b (.a (.a jc aU) ja) (.a jb aU)] rfl hf) (by rw[aa];show out.length+1+iN r<_;exact lS (.a (.a ja aU) jb) aI [.b (.a ja (.a (.a jc aU) jb)) aI] rfl hl) (by rw[aK];exact K)
theorem Lp{W:XV}{cl:CL}{a0:PV}{k:KX}(h:W (IW a0 none none) ⟨pm,[.a [],.a [a0]]::rg,ni⟩ λfl loc s=>fb fl (sI true (bx 1) loc s λv s=>k (.b v) loc s) (k fl loc s)):
  bU (gJ 1 (tD d9)) (bU (gJ 2 (tD (bO (bx 0) d9))) (bU W (bU (Iw (sI true (bx 1))) eG))) [some (.a a0),none,none,none,none] ⟨pm,[]::rg,ni⟩ k:=h
theorem Ht{t:Tr}(hs:t.O<40000)(K:k (.j (t.d'.map Tr.I)) ⟨pm,rg,ni⟩):av (n+1) 39 [.a t.I] ⟨pm,rg,ni⟩ k:=by
 refine in_w ?_;show bU (gJ 1 (tD d9)) (bU (gJ 2 (tD (bO (bx 0) d9))) (bU (yD (bx 2) (Xc (av n))) (bU (Iw (sI true (bx 1))) eG))) [some (.a t.I),none,none,none,none] ⟨pm,[]::rg,ni⟩ (eF k);refine Lp (W:=yD (bx 2) (Xc (av n))) (cl:=av n) ?_;refine Lo (st:=[t]) (out:=[]) 50000 (show t.O+0<_ by exact fJ (.a ja fU) aI [.b ja jt] rfl hs) (show 0+(t.O+0)<_ by exact fJ (.a fU (.a ja fU)) aI [.b ja jt] rfl hs) λa3 a4=>?_
 rw[show[]++pX [t]=t.d' from az _]
 exact K

variable{f:Fc}
theorem Ms{id:Nat}{vs:S3}(hg:f.x.a=.h)(K:k (.g true) (S4 d X f.I rg ni)):av (n+1) 40 [.a (.e 17),.a (.l id vs)] (S4 d X f.I rg ni) k:=by obtain⟨J,J,J,J,J,J,J,J,J,⟨J,J,J,J,J⟩,J,J,J,J,J,J,J⟩:=f;subst hg;exact in_w K
abbrev stV(how:Int):PV:=.m 6 [if how=1 then .e 26 else eD,eD]
abbrev EP(f:Fc)(how:Int):Fc:= {f with x:= {f.x with a:=.e 6,b:=BX how}}
theorem Mu{id:Nat}{vs:S3}{how:Int}(hh:how∈[(0:Int),1])(K:ob ni[id]? λv=>tb (some (!(bA (.d v) f.e).isSome)) (ob ni[id]? λv=>ob (bA (.d v) f.e) λw=>av (n+1) 30 [.a (.e 6),.a w,.a (stV how)] (S4 d X (EP f how).I ([]::rg) ni) λu s=>k u (s.I List.tail)) (k (.g true) (S4 d X (EP f how).I rg ni))):
  av (n+2) 40 [.a (.e 17),.a (.l id vs)] (S4 d X (EP f how).I rg ni) k:=by
 refine fP [30] ?_;revert how K;exact @kM _ _ _ _ (by kernel_rfl)
theorem oi{v:Int}{w:PV}:bA (.d v) [(.d v,w)]=some w:=by
 have:fB (.d v) (.d v,w)=true:=by show(some (v==v)==some true)=true;rw[beq_self_eq_true];rfl
 unfold bA;rw[bK,this];rfl
noncomputable def vD(how:Int)(S:S1)(v:Int):Bool:=decide (how=1)&&decide (v∈S)
theorem bd{r:Nat->Bool}{S:S1}{id fl:Nat}{vs:S3}{t6 how:Int}(hh:how∈[(0:Int),1])(hf:ni[id]?=some t6)(hx:f.e=[(.d t6,.d fl)])(hv:f.j=gD S)(P:GP ni (vD how S) gs r)(hl:fl<gs.length)(hr:z8 (xO gs) [] gs.length<=40000)(K:k (.g (r fl)) (SG d X (EP f how) gs rg ni)):av (n+4) 40 [.a (.e 17),.a (.l id vs)] (SG d X (EP f how) gs rg ni) k:=by
 refine Mu (f:=fg f gs) hh ?_;refine cG (o:=ni[id]?) hf ?_;have e:bA (.d t6) (fg f gs).e=some (.d fl):=by show bA (.d t6) f.e=_;rw[hx];exact oi
 rw[e];refine cG (o:=ni[id]?) hf (cG (o:=bA (.d t6) f.e) e ?_);refine Hx (f:=EP f how) (N:=vD how S) (λv rg=>?_) P.d P.f hl hr K
 simp only[aF,gm,or_false]at hh
 rcases hh with rfl|rfl
 .rfl
 .show some (bA (.d v) f.j).isSome=some (true&&decide (v∈S));rw[hv,rH];rfl

variable{c0:ah}
theorem vJ{c:Nat}{vs:S3}{h w:PV}{v:Int}(hc:ni[c]?=some v)(ht:bA (.d v) f.a=some w)(K:k w (S4 d X f.I rg ni)):av (n+2) 60 [.a (.e 17),.a (.l c vs),.a h] (S4 d X f.I rg ni) k:=by
 rw[cO];have e:[gI (n+2) 60 [.a (.e 17),.a (.l c vs),.a h] (S4 d X f.I rg ni) k]=[ob ni[c]? λv=>tb (some (bA (.d v) f.a).isSome) False (ob ni[c]? λv=>ob (bA (.d v) f.a) λw=>k w (S4 d X f.I rg ni))]:=by kernel_rfl
 have e2:=jI e;rw[e2,hc];show tb (some (bA (.d v) f.a).isSome) False (ob (bA (.d v) f.a) λw=>k w (S4 d X f.I rg ni))
 rw[ht];exact K
structure Rt where
 i:Nat
 p:Int
 v:aao
abbrev Rt.I(r:Rt):Tr:=oN r.i r.p 52 eS (Ua r.p r.v)
mutual
noncomputable def Sm.c':Sm->List Rt
 |.D i p v=>[⟨i,p,v⟩]
 |.B _ _ _ _ b=>b.O
 |.o _ _ _ _ y z=>y.O++z.O
 |_=>[]
noncomputable def Bk.O:Bk->List Rt
 |.mk _ _ ss=>ss.V
noncomputable def Ss.V:Ss->List Rt
 |.g=>[]
 |.c s r=>s.c'++r.V
end
theorem WI{a:V8}:qX a≠52/\qX a≠27/\qX a≠61:=by induction a with
 |none=>decide
 |some b=>induction b<;>decide
theorem BQ{i:Nat}{p:Int}{a:V8}{w:PV}:(oN i p (qX a) w .a).d'=[]:=by
 show(if qX a=52 then _ else if qX a≠27/\qX a≠61 then[]else[])=_
 rw[if_neg WI.1,ite_self]
mutual
theorem Sm.n':∀m:Sm,m.I.d'=m.c'.map Rt.I
 |.D .. =>rfl
 |.L .. =>rfl
 |.E .. =>rfl
 |.C .. =>rfl
 |.M .. =>rfl
 |.B i q p c b=>by show(oN q p (qX (wa c)) _ .a).d'++(b.I.d'++[])=b.O.map Rt.I;rw[BQ,b.k'];exact az _
 |.o i q p a y z=>by show(oN q p (qX a) _ .a).d'++(y.I.d'++(z.I.d'++[]))=(y.O++z.O).map Rt.I;rw[BQ,y.k',z.k',aD,az];rfl
theorem Bk.k':∀m:Bk,m.I.d'=m.O.map Rt.I
 |.mk _ _ ss=>ss.g'
theorem Ss.g':∀m:Ss,m.I.d'=m.V.map Rt.I
 |.g=>rfl
 |.c s r=>by show s.I.d'++r.I.d'=(s.c'++r.V).map Rt.I;rw[s.n',r.g',aD]
end
noncomputable def j5(kd:Nat->Int)(x:S1×Bool)(r:Rt):S1×Bool:=match r.v with
 |some v=>(x.1++[kd v.2],x.2)
 |none=>(x.1,true)
def IQ(ni:S1)(ty:S8)(kd:Nat->Int)(rs:List Rt):Prop:=∀r∈rs,∀v,r.v=some v->∃u,ni[v.1]?=some u/\bA (.d u) ty=some (.d (kd v.2))
noncomputable abbrev Yt(c0:ah)(f:Fc):Fc:= {f with g:=[c0]}
noncomputable abbrev wO(c0:ah)(f:Fc)(ks:S1):Fc:= {f with g:=[c0,.a (ks.map .d)]}
noncomputable abbrev H0(fn h:PV)(b:Bool)(a:S7):dj:=[some (.a (.e 17)),some (.a fn),some (.a h),some (.a (.e 28)),some (.a (.g b)),a]
theorem UW{id:Nat}{a b c e:PV}{k0 k1 k2:PV}{m0:Bk}{h:PV}{bl:Bool}{kd:Nat->Int}(hs:m0.I.O<40000)(hl:m0.O.length<50000)(ty:IQ ni f.a kd m0.O)
  (E:∀{k rg},k (.g bl) (S4 d X (wO c0 f []).I rg ni)->av (n+2) 40 [.a (.e 17),.a (.l id [a,b,.j [k0,k1,k2,m0.I.I],c,e])] (S4 d X (wO c0 f []).I rg ni) k)
  (K:k (.f [.e 28,.g (m0.O.foldl (j5 kd) ([],bl)).2]) (S4 d X (wO c0 f (m0.O.foldl (j5 kd) ([],bl)).1).I rg ni)):
  av (n+3) 41 [.a (.e 17),.a (.l id [a,b,.j [k0,k1,k2,m0.I.I],c,e]),.a h] (S4 d X (Yt c0 f).I rg ni) k:=by
 refine in_w ?_;refine E ?_;refine Ht hs ?_;rw[m0.k',eX];generalize m0.O=rs at *
 show forLoop _ _ _ _ _ _ _ _;refine k8 (⟨λa5 x=>H0 (.l id [a,b,.j [k0,k1,k2,m0.I.I],c,e]) h x.2 a5,λx=>S4 d X (wO c0 f x.1).I ([]::rg) ni,λm x=>x.1.length+m<50000⟩:Fo (S7) (S1×Bool)) (j5 kd) (vs:=rs) (x:=([],bl)) (λJ J=>rfl) (ao ..) (by show 0+_<_;exact fJ (.a fU ja) aI [.b ja aI] rfl hl) (λJ J=>K) λm a5 x r hr hx=>?_
 obtain⟨i,p,v⟩:=r;obtain _|v:=v
 .exact⟨Nat.lt_of_succ_lt hx,λq hq=>hq _⟩
 .obtain⟨u,h1,h2⟩:=ty _ hr v rfl;refine⟨by show(x.1++[_]).length+m<_;rw[aa];show x.1.length+1+m<_;change x.1.length+(m+1)<_ at hx;exact fh (.a (.a ja aU) jb) aI [.b (.a ja (.a jb aU)) aI] rfl hx,λq hq=>?_⟩
  refine vJ (f:=wO c0 f x.1) h1 h2 (dP (by rw[ao];change x.1.length+(m+1)<_ at hx;exact fh ja aX [.b (.a ja (.a jb aU)) aI] rfl hx) ?_)
  have this:q .a (H0 (.l id [a,b,.j [k0,k1,k2,m0.I.I],c,e]) h x.2 (some (.a (Tr.I (oN i p 52 eS (Ua p (some v))))))) (S4 d X (wO c0 f (x.1++[kd v.2])).I ([]::rg) ni):=hq _;unfold wO at this
  rw[aD]at this
  exact this
abbrev WG:=List Rt

variable{rs:WG}
variable{h:Int}{T:S1}
abbrev i9:S1:=0::1::jy
def JD(X:S3)(T:S1)(h f:Int):Prop:=(0∈T/\f=0)\/(0∉T/\1∈T/\f=1)\/((∀t∈T,t∈jy)/\∃R,nC X f R/\z9 (mB (cj X gh).1) R=oF (iW T) (fR h))
theorem qM(hT:∀t∈T,t∈i9)(hh:h∈dG)(hX:X.length<=10)(go:∀f' Y,JD (X++Y) T h f'->Y.length<=4->nZ Y->k (.d f') (S4 d (X++Y) f.I rg ni)):
  av (n+11) 42 [.a (.e 17),.a (.d (qu X T).1),.a (.d h)] (S4 d (qu X T).2 f.I rg ni) k:=by
 have m0:∀z∈[(0:Int),1],(z∈mP T []↔z∈T):=λz hz=>by
  rw[pL];have F:=(by decide:∀z∈[(0:Int),1],∀t∈i9,(z∈rK t↔z=t)) z hz
  exact⟨λh=>h.elim (λh=>nomatch h) λ⟨t,h1,h2⟩=>(F t (hT t h1)).mp h2▸h1,λh=>.inr ⟨z,h,(F z (hT z h)).mpr rfl⟩⟩
 have m13:(13:Int)∉mP T []:=λh=>by
  rcases pL.mp h with h|⟨t,h1,h2⟩
  .exact nomatch h
  .exact absurd h2 ((by decide:∀t∈i9,(13:Int)∉rK t) t (hT t h1))
 by_cases h0:0∈T
 .have e:qu X T=(0,X):=by unfold qu W8 BV;rw[if_pos ((m0 0 (by decide)).mpr h0)];rfl
  rw[e];refine qN (p:=0) (by decide) hh ?_
  rw[(by decide:∀h∈dG,z6 0 h=0) h hh]
  have go:=go 0 [];rw[az]at go
  exact go (.inl ⟨h0,rfl⟩) (bI _) .d'
 .by_cases h1:1∈T
  .have e:qu X T=(1,X):=by unfold qu W8 BV;rw[if_neg λh=>h0 ((m0 0 (by decide)).mp h),if_neg m13,if_pos ((m0 1 (by decide)).mpr h1)];rfl
   rw[e];refine qN (p:=1) (by decide) hh ?_
   rw[(by decide:∀h∈dG,z6 1 h=1) h hh]
   have go:=go 1 [];rw[az]at go
   exact go (.inr (.inl ⟨h0,h1,rfl⟩)) (bI _) .d'
  .have hv:∀t∈T,t∈jy:=λt ht=>by
    rcases aF.mp (hT t ht)with rfl|h
    .exact absurd ht h0
    .rcases aF.mp h with rfl|h
     .exact absurd ht h1
     .exact h
   exact Hg hv hh hX λf' Y R hp hm hl hy=>go f' Y (.inr (.inr ⟨hv,R,hp,hm⟩)) hl hy
noncomputable abbrev nO(id:Nat)(ks:S3)(fl:Int):PV:=.l id [.d 27,.k "f",.j ks,.d fl,.d 5]
theorem SI{id:Nat}{ks:S3}{fl m:Int}(go:k (.g (Builtin.bitAnd fl m != 0)) (S4 d X f.I rg ni)):av (n+1) 1 [.a (nO id ks fl),.a (.d m)] (S4 d X f.I rg ni) k:=in_w go
theorem Vz:Uz (.a (.e 28)) d (wO c0 f T).I rg ni T (.b (.a (.e 28))):=⟨rfl,ao ..,rfl⟩
theorem ye{w3:PV}(Y4:dS (.f (iG 23 0)) X=none)(hX:X.length<900)(hT:∀t∈T,t∈i9)(go:k (.d (qu X T).1) (S4 d (qu X T).2 (wO c0 f T).I rg ni)):
  av (n+4) 53 [.a (.e 25),.a (.e 17),.a w3,.a (.e 28)] (S4 d X (wO c0 f T).I rg ni) k:=by
 refine in_w ?_;exact zb (ZY Y4) hX Vz (λt ht=>(by decide:∀t∈i9,t∈24::lB) t (hT t ht)) go
theorem Ti{p:Bool}{A B C:Prop}(h0:p=false->A)(h1:p=true->C):tb (some p) (tb (some p) A B) C:=by
 induction p
 .exact h0 rfl
 .exact h1 rfl
noncomputable def IB(fl:Int)(own b:Bool)(h:Int):Int:=if(!b&&(!(Builtin.bitAnd fl 16 != 0)&&(!(Builtin.bitAnd fl 64 != 0)&& !own)))=true then 2 else if h=4 then 4 else 3
theorem Gq{t:PV}(go:k t (S4 d X f.I rg ni)):av (n+1) 49 [.a (.e 12),.a t] (S4 d X f.I rg ni) k:=in_w go
noncomputable abbrev blL(fn:PV)(h:Int)(b:Bool):dj:=[some (.a (.e 17)),some (.a fn),some (.a (.d h)),some (.a (.e 28)),some (.a (.g b))]
abbrev blV(cl:CL):EV:=Uu (B6 (jG .c (bx 2) (Yk (bN (.d 1)))) (jG .a (oJ cl (fT (bx 0) 38) 39 (bO (bx 2) d9)) (jP 21))) (jP 21) (jP 47)
theorem UN{fn:PV}{b:Bool}{k:KV}(go:k (.a (.d (if h=4 then 4 else 3))) (S4 d X f.I rg ni)):blV (av (n+1)) (blL fn h b) (S4 d X f.I rg ni) k:=by
 by_cases h4:h=4
 .subst h4;exact Gq go
 .rw[if_neg h4]at go
  refine nu (b:=h != -1) (p:=h≠ -1) bne_iff_ne (λh1=>?_) λh1=>?_
  .refine fW (b:=h != -1) (dg.mpr λe=>h1 (bne_iff_ne.mp e)) go
  .exact Gq (fW (b:=h==4) (beq_eq_false_iff_ne.mpr h4) go)
theorem Rn{id:Nat}{k0 k1 k2:PV}{m0:Bk}{fl t6:Int}{bl own:Bool}{kd:Nat->Int}(hh:h∈dG)(hf:ni[id]?=some t6)(ho:(bA (.d t6) f.i).isSome=own)(Y4:dS (.f (iG 23 0)) X=none)(hX:X.length<=10)(hs:m0.I.O<40000)(hl:m0.O.length<50000)(ty:IQ ni f.a kd m0.O)
  (hT:∀t∈(m0.O.foldl (j5 kd) ([],bl)).1,t∈i9)(hn:(m0.O.foldl (j5 kd) ([],bl)).1.length<50000)
  (E:∀{k rg},k (.g bl) (S4 d X (wO c0 f []).I rg ni)->av (n+10) 40 [.a (.e 17),.a (nO id [k0,k1,k2,m0.I.I] fl)] (S4 d X (wO c0 f []).I rg ni) k)
  (kb:(m0.O.foldl (j5 kd) ([],bl)).1=[]->k (.d (IB fl own (m0.O.foldl (j5 kd) ([],bl)).2 h)) (S4 d X (wO c0 f []).I rg ni))
  (j2:(m0.O.foldl (j5 kd) ([],bl)).1≠[]->∀f' Y,JD (X++Y) ((m0.O.foldl (j5 kd) ([],bl)).1++if(m0.O.foldl (j5 kd) ([],bl)).2 then[4]else[]) h f'->Y.length<=4->nZ Y->k (.d f') (S4 d (X++Y) (wO c0 f ((m0.O.foldl (j5 kd) ([],bl)).1++if(m0.O.foldl (j5 kd) ([],bl)).2 then[4]else[])).I rg ni)):
  av (n+12) 43 [.a (.e 17),.a (nO id [k0,k1,k2,m0.I.I] fl),.a (.d h)] (S4 d X (Yt c0 f).I rg ni) k:=by
 refine in_w ?_;refine UW (n:=n+8) hs hl ty E ?_;generalize m0.O.foldl (j5 kd) ([],bl)=u at *
 obtain⟨ts,b⟩:=u;dsimp only at *
 match ts,kb,j2,hT,hn with
 |[],kb,_,_,_=>
  have go:=kb rfl;unfold IB at go
  have no:(!b&&(!(Builtin.bitAnd fl 16 != 0)&&(!(Builtin.bitAnd fl 64 != 0)&& !own)))=false->blV (av (n+11)) (blL (nO id [k0,k1,k2,m0.I.I] fl) h b) (S4 d X (wO c0 f []).I ([]::rg) ni) λv s=>eF k (.b v) [] s:=λhc=>by
   rw[if_neg (dg.mp hc)]at go
   exact UN (f:=wO c0 f []) go
  refine Ti (p:= !b) (λh1=>no (by rw[h1];rfl)) λh1=>SI ?_
  refine Ti (p:= !(Builtin.bitAnd fl 16 != 0)) (λh2=>no (by rw[h1,h2];rfl)) λh2=>SI ?_
  refine Ti (p:= !(Builtin.bitAnd fl 64 != 0)) (λh3=>no (by rw[h1,h2,h3];rfl)) λh3=>?_
  refine cG (o:=ni[id]?) hf ?_;show tb (some (!(bA (.d t6) f.i).isSome)) _ _;rw[ho];induction own
  .rw[h1,h2,h3]at go;exact go
  .exact no (by rw[h1,h2,h3];rfl)
 |t::ts,_,j2,hT,hn=>
  have go:=j2 (λh=>nomatch h)
  induction b
  .rw[if_neg aO,az]at go
   exact ye Y4 (by exact fJ ja eH [.a ja sF] rfl hX) hT (qM hT hh hX go)
  .rw[if_pos rfl]at go
   refine dP (p:=((t::ts).map PV.d).length<100000) (by rw[ao];exact fJ (.a ja aU) aX [.b (.a ja aU) aI] rfl hn) ?_
   have e:(t::ts).map PV.d++[.d 4]=(t::ts++[4]).map .d:=by rw[aD];rfl
   show av (n+11) 53 [.a (.e 25),.a (.e 17),.a (nO id [k0,k1,k2,m0.I.I] fl),.a (.e 28)] (S4 d X (Fc.I {f with g:=[c0,.a ((t::ts).map .d++[.d 4])]}) ([]::rg) ni) _
   rw[e];have hT':∀x∈t::ts++[4],x∈i9:=λx hx=>(aS.mp hx).elim (hT x) λh=>by rw[aB.mp h];decide
   exact ye Y4 (by exact fJ ja eH [.a ja sF] rfl hX) hT' (qM hT' hh hX go)

variable{fl:Int}{id bi:Nat}{k0 k1 k2 k3:PV}{Nj:S3}
noncomputable abbrev wl(h:Int):PV:=.f [.d 13,.f [],.f [],.d h,.f [],.d 0]
noncomputable def M6(h:Int):Int:=if h= -1 then-1 else 27
def mD(h:Int):S3:=if h= -1 then[]else[wl h]
theorem QG{α:Type}{f g:Int->Int->α}{l m:S1}(e:(l.map λx=>m.map (f x))=l.map λx=>m.map (g x)){x y:Int}(hx:x∈l)(hy:y∈m):f x y=g x y:=fN (fN (f:=λx=>m.map (f x)) (g:=λx=>m.map (g x)) e hx) hy
theorem YL{α β:Type}{L:List α}{M:List β}{A B:α->β->Prop}(e:(L.map λx=>M.map (A x))=L.map λx=>M.map (B x))(x:α)(y:β)(h:x∈L)(g:y∈M)(b:B x y):A x y:=kM (bV.mp e x h) y g b
theorem An(hh:h∈dG)(hf:fl∈[(160:Int),256])(go:k (.d 3) (S4 d (mD h) f.I rg ni)):av (n+2) 44 [.a (.e 17),.a (nO id [k0,k1,k2,k3] fl),.a (.d (M6 h))] (S4 d (mD h) f.I rg ni) k:=by refine fP [] ?_;revert go;revert hf;revert hh;revert fl;revert h;exact @YL _ _ _ _ _ _ (by kernel_rfl)
theorem Cn(hh:h∈dG)(hf:fl∈[(16:Int),32])(go:k (.d 0) (S4 d (mD h) f.I rg ni)):av (n+2) 44 [.a (.e 17),.a (nO id [k0,k1,k2,.h] fl),.a (.d (M6 h))] (S4 d (mD h) f.I rg ni) k:=by refine fP [] ?_;revert go;revert hf;revert hh;revert fl;revert h;exact @YL _ _ _ _ _ _ (by kernel_rfl)
theorem Cp(hh:h∈dG)(go:av (n+1) 60 [.a (.e 17),.a (.l bi Nj),.a (.d h)] (S4 d (mD h) f.I ([]::rg) ni) λv s=>av (n+1) 42 [.a (.e 17),.a v,.a (.d h)] s λv s=>k v (s.I List.tail)):
  av (n+2) 44 [.a (.e 17),.a (nO id [k0,k1,k2,.l bi Nj] 12),.a (.d (M6 h))] (S4 d (mD h) f.I rg ni) k:=by
 refine fP [60,42] ?_;revert h go;exact @kM _ _ _ _ (by kernel_rfl)
theorem Ao(hh:h∈dG)(hf:fl∈[(16:Int),4,32,96])(hb:∃bi Nj,k3=.l bi Nj)(go:av (n+1) 43 [.a (.e 17),.a (nO id [k0,k1,k2,k3] fl),.a (.d h)] (S4 d (mD h) f.I ([]::rg) ni) λv s=>k v (s.I List.tail)):
  av (n+2) 44 [.a (.e 17),.a (nO id [k0,k1,k2,k3] fl),.a (.d (M6 h))] (S4 d (mD h) f.I rg ni) k:=by
 obtain⟨bi,Nj,rfl⟩:=hb;refine fP [43] ?_;revert go;revert hf;revert hh;revert fl;revert h;exact @YL _ _ _ _ _ _ (by kernel_rfl)

variable{r:V6}{w b:Int}
abbrev ur:PV:=.f (iG 23 0)
noncomputable def uG(w:Int):S1:=if w=2 then[]else if w=12 then[8,9]else if w=21 then[4,6]else if w=22 then[3,6]else if w=19 then[7,18]else[w]
theorem ww(hw:w∈cK)(go:k (.d w) (S4 d X r rg ni)):av (n+4) 22 [.a (.e 1),.a (.d w)] (S4 d X r rg ni) k:=by rw[cO];revert w go;exact @kM _ _ _ _ (by kernel_rfl)
theorem Vl(hw:w∈cK)(go:k (.f ((uG w).map .d)) (S4 d X r rg ni)):av (n+1) 11 [.a (.e 1),.a (.d w)] (S4 d X r rg ni) k:=by rw[cO];revert w go;exact @kM _ _ _ _ (by kernel_rfl)
theorem Hw(hX:X.length<900)(go:k (.d (cj X ur).1) (S4 d (cj X ur).2 r rg ni)):av (n+3) 22 [.a (.e 1),.a (.d 24)] (S4 d X r rg ni) k:=by refine in_w<|in_w<|in_w<|in_w ?_;exact Az (row:=ur) rfl hX go
noncomputable def xe(q:Int):Bool:=decide (q=0)||decide (q=1)||decide (q=13)
noncomputable abbrev N9:S1:=[0,1,3,4,6,7,8,9,13,18]
def WF(n:Nat)(d:ah)(X:S3)(r:V6)(rg:V5)(ni:S1)(b q:Int)(k:KP):Prop:=
 let T:=k (.g true) (S4 d X r rg ni)
 let E:=ob (kI (T1++X) b) λrow=>av (n+1) 12 [.a row] (S4 d X r ([]::rg) ni) λv s=>AL .a (.a v) (.a (.d q)) s λc=>k (.g c) (s.I List.tail)
 let L:=tb (some (b==0)) (tb (some (b==4)) (tb (some (b==4)) E T) (tb (some (q==3)) E T)) (k (.g (q != 2)) (S4 d X r rg ni))
 tb (some (b==q)) (if xe q then T else tb (some ([PV.d 2,PV.d 13].any λv=>rN v (.d b)==some true)) L T) (tb (some (b==q)) L T)
theorem QB{q:Int}(hb:qA X b (iG 23 0))(CA:27<=b)(hq:q∈N9)(go:k (.g (xe q)) (S4 d X r rg ni)):av (n+2) 57 [.a (.e 1),.a (.d b),.a (.d q)] (S4 d X r rg ni) k:=by
 have ne:∀z:Int,z<27->(b==z)=false:=λz hz=>beq_eq_false_iff_ne.mpr (by exactλe'=>Nd [.a jD ja,.b jb jD,.f ja jb] rfl CA hz e')
 have en:∀z:Int,z<27->(rN (.d z) (.d b)==some true)=false:=λz hz=>by show(some (z==b)==some true)=false;rw[beq_eq_false_iff_ne.mpr (show z≠b by exactλe'=>Nd [.a jD ja,.b jb jD,.e jb ja] rfl CA hz e')];rfl
 have e:N9.map (λq=>ny (jw [12] (n+1)) 57 [.a (.e 1),.a (.d b),.a (.d q)] (S4 d X r rg ni) k)=N9.map λq=>WF n d X r rg ni b q k:=by kernel_rfl
 have e2:=fN e hq;refine fP [12] ?_;rw[e2];unfold WF;rw[ne q ((by decide:∀q∈N9,q<27) q hq),ne 0 (by decide),ne 4 (by decide),dF,dF,List.any_nil,en 2 (by decide),en 13 (by decide),hb]
 induction h:xe q
 .rw[h]at go
  refine in_w ?_;have:((-1:Int)==q)=false:=(by decide:∀q∈N9,((-1:Int)==q)=false) q hq
  show k (.g ((-1:Int)==q)) (S4 d X r rg ni);rw[this];exact go
 .rw[h]at go;exact go
theorem ZJ(hb:qA X b (iG 23 0))(CA:27<=b)(go:k (.f [.d b]) (S4 d X r rg ni)):av (n+1) 11 [.a (.e 1),.a (.d b)] (S4 d X r rg ni) k:=in_w<|fW (b:=b==2) (beq_eq_false_iff_ne.mpr (by exact I1 CA rfl)) (cG (o:=kI (T1++X) b) hb go)
noncomputable abbrev ftL(w b:Int)(ok:Bool)(a6:S7):dj:=[some (.a (.e 1)),some (.a (.d 24)),some (.a (.d w)),some (.a (.j [])),some (.a (.d b)),some (.a (.g ok)),a6]
theorem VX(hw:w∈cK)(Ol:w≠13)(hX:X.length<900)(go:k (.f [.g (decide (w=0)||decide (w=1)),.j []]) (S4 d (cj X ur).2 f.I rg ni)):av (n+7) 56 [.a (.e 25),.a (.e 17),.a (.d 24),.a (.d w)] (S4 d X f.I rg ni) k:=by
 obtain⟨p1,J,J⟩:=jY (X:=X) (row:=iG 23 0);have ge:27<=(cj X ur).1:=by
  have e:=n9 (X:=X) (k:=ur) (T:=T1) (by kernel_rfl)
  unfold cj;rw[e]
  induction dS ur X with
  |some j=>show(27:Int)<=((j+27:Nat):Int);exact I2 jD (.a ja jD) [.a fU ja] rfl (bC _)
  |none=>show(27:Int)<=(((T1++X).length:Nat):Int);rw[aa];show(27:Int)<=((27+X.length:Nat):Int);exact I2 jD (.a jD ja) [.a fU ja] rfl (bC _)
 refine in_w ?_;refine in_w ?_;refine ww hw ?_;refine Hw hX ?_;generalize (cj X ur).1=b at *
 generalize (cj X ur).2=X2 at *
 refine ZJ p1 ge ?_;refine Vl hw ?_;have hq:∀q∈uG w,q∈N9:=(by decide:∀w∈cK,∀q∈uG w,q∈N9) w hw
 have hf:(uG w).foldl (λok q=>ok||xe q) false=(decide (w=0)||decide (w=1)):=(by decide:∀w∈cK,w≠13->(uG w).foldl (λok q=>ok||xe q) false=(decide (w=0)||decide (w=1))) w hw Ol
 rw[<-hf]at go
 show forLoop _ _ _ _ _ _ _ _;refine k8 (⟨λa ok=>ftL w b ok a,λJ=>S4 d X2 f.I ([]::[]::rg) ni,λJ J=>True⟩:Fo (S7) Bool) (λok q=>ok||xe q) (f:=PV.d) (vs:=uG w) (x:=false) (λJ J=>rfl) (ao ..) trivial (λJ a=>?_) λm a ok q hm J=>⟨trivial,λK hK=>?_⟩
 .generalize (uG w).foldl (λok q=>ok||xe q) false=ok at *
  induction ok
  .exact go
  .exact Ti (p:=b==0) (λJ=>go) λh=>absurd (eq_of_beq h) (by exact I1 ge rfl)
 .refine QB p1 ge (hq q hm) ?_;have:K .a (ftL w b (ok||xe q) (some (.a (.d q)))) (S4 d X2 f.I ([]::[]::rg) ni):=hK _
  induction h:xe q<;>rw[h]at this
  .rw[d7]at this;exact this
  .rw[Bool.or_true]at this;exact this

variable{v num at_:Int}
structure Dg where
 a:Int
 b:Int
 c:PV
def Dg.I(e:Dg):PV:=.m 1 [.d e.a,.d e.b,e.c,eS]
abbrev fD(f:Fc)(D:List Dg)(N:S3):Fc:= {f with b:=D.map Dg.I,c:=N}
theorem Wj{args:PV}(hl:f.b.length<100000)(go:k .h (S4 d X (Fc.I {f with b:=f.b++[.m 1 [.d num,.d at_,args,eS]]}) rg ni)):av (n+2) 4 [.a (.e 13),.a (.d num),.a (.d at_),.a args] (S4 d X f.I rg ni) k:=by
 rw[cO];have e:[gI (n+2) 4 [.a (.e 13),.a (.d num),.a (.d at_),.a args] (S4 d X f.I rg ni) k]=[gb (decide (f.b.length<100000)) (k .h (S4 d X (Fc.I {f with b:=f.b++[.m 1 [.d num,.d at_,args,eS]]}) rg ni))]:=by kernel_rfl
 have e2:=jI e;rw[e2];exact dP hl go
theorem yF{D:List Dg}{N:S3}{args:PV}(hd:∀e∈D,¬(e.a=num/\e.b=at_))(hl:D.length<90000)(go:k .h (S4 d X (fD f (D++[⟨num,at_,args⟩]) N).I rg ni)):
  av (n+4) 65 [.a (.e 17),.a (.d num),.a (.d at_),.a args] (S4 d X (fD f D N).I rg ni) k:=by
 refine in_w ?_;show forLoop _ _ _ _ _ _ _ _;refine k8 (⟨λa J=>[some (.a (.e 17)),some (.a (.d num)),some (.a (.d at_)),some (.a args),a],λJ=>S4 d X (fD f D N).I ([]::rg) ni,λJ J=>True⟩:Fo (S7) Unit) (λJ J=>()) (f:=Dg.I) (vs:=D) (x:=()) (λJ J=>rfl) (ao ..) trivial (λJ a=>?_) λm a J e he J=>⟨trivial,λq hq=>?_⟩
 .refine Wj (f:=fD f D N) (by rw[ao];exact fJ ja aX [.b ja br] rfl hl) ?_
  show k .h (S4 d X (Fc.I {f with b:=D.map Dg.I++[Dg.I ⟨num,at_,args⟩],c:=N}) rg ni)
  unfold fD at go
  rw[aD]at go
  exact go
 .have go:=hq (some (.a e.I));obtain⟨en,ea,eg⟩:=e;show tb (some (en==num)) _ _;refine Ti (p:=en==num) (λJ=>go) λh1=>?_
  show tb (some (ea==at_)) _ _;exact Ti (p:=ea==at_) (λJ=>go) λh2=>absurd ⟨eq_of_beq h1,eq_of_beq h2⟩ (hd _ he)
abbrev aai:=List Dg

variable{D:aai}{N:S3}{nd:PV}
noncomputable abbrev IP(v w:Int):PV:=.f [.k (Str.ofString (toString v)),.k (Str.ofString (toString w))]
def k9(num at_ v w:Int)(D:aai):aai:=if rL v w then D else D++[⟨num,at_,IP v w⟩]
def lM(at_ v w:Int)(N:S3):S3:=if rL v w&&z5 v w then N++[.f [.d 1,.d at_]]else N
def uq(X:S3)(v w:Int):S3:=if v=24/\w≠13 then(cj X ur).2 else X
theorem H7(hw:w∈cK)(go:av (n+3) 65 [.a (.e 17),.a (.d num),.a (.d at_),.a (IP 24 w)] (S4 d X f.I ([]::rg) ni) λJ s=>k .h (s.I List.tail)):
  av (n+4) 55 [.a (.e 25),.a (.e 17),.a nd,.a (.d 24),.a (.d w),.a (.d at_),.a (.d num)] (S4 d X f.I rg ni) k:=by
 refine fP [65] ?_;revert w go;exact @kM _ _ _ _ (by kernel_rfl)
theorem Ra(hw:w∈cK)(hX:X.length<900)(hd:∀e∈D,¬(e.a=num/\e.b=at_))(hl:D.length<90000)(go:k (.g (rL 24 w)) (S4 d (uq X 24 w) (fD f (k9 num at_ 24 w D) N).I rg ni)):
  av (n+8) 69 [.a (.e 17),.a nd,.a (.d 24),.a (.d w),.a (.d at_),.a (.d num)] (S4 d X (fD f D N).I rg ni) k:=by
 have eg:rL 24 w=(decide (w=13)||(decide (w=0)||decide (w=1))):=(by decide:∀w∈cK,rL 24 w=(decide (w=13)||(decide (w=0)||decide (w=1)))) w hw
 refine in_w ?_;by_cases Ol:w=13
 .subst Ol;exact go
 .rw[show uq X 24 w=(cj X ur).2 from if_pos ⟨rfl,Ol⟩]at go
  rw[decide_eq_false Ol,se]at eg
  refine fW (b:=w==13) (beq_eq_false_iff_ne.mpr Ol) ?_;refine VX hw Ol hX ?_;rw[<-eg];unfold k9 at go
  induction h:rL 24 w
  .rw[h,if_neg aO]at go
   refine H7 hw ?_;exact yF hd hl go
  .rw[h,if_pos rfl]at go
   exact in_w go
theorem Q8(hv:v∈i9)(hw:w∈cK)(hX:X.length<900)(hd:∀e∈D,¬(e.a=num/\e.b=at_))(hl:D.length<90000)(hN:N.length<90000)(go:k (.g (rL v w)) (S4 d (uq X v w) (fD f (k9 num at_ v w D) (lM at_ v w N)).I rg ni)):
  av (n+8) 69 [.a (.e 17),.a nd,.a (.d v),.a (.d w),.a (.d at_),.a (.d num)] (S4 d X (fD f D N).I rg ni) k:=by
 by_cases pS:v=24
 .subst pS;refine Ra hw hX hd hl ?_;rw[show lM at_ 24 w N=N by unfold lM z5;rw[show((24:Int)==0)=false from rfl,xC,qj];rfl]at go
  exact go
 .refine ba (n:=n+1) ((by decide:∀v∈i9,v≠24->v∈SK) v hv pS) hw ?_
  rw[show uq X v w=X from if_neg λh=>pS h.1]at go
  unfold k9 lM at go
  unfold Ur;rw[<-cO]
  induction h:rL v w
  .rw[h,if_neg aO,xC,if_neg aO]at go
   exact yF hd hl go
  .rw[h,if_pos rfl,sd]at go
   rw[if_pos rfl]
   induction h2:z5 v w
   .rw[h2,if_neg aO]at go;exact go
   .rw[h2,if_pos rfl]at go
    exact dP (p:=N.length<100000) (by exact fJ ja aX [.b ja br] rfl hN) go

variable{c1 sn:ah}{p:Int}{b g:Bool}{i c:Nat}{vs:S3}{wr vd st dp u:Int}{val:PV}
noncomputable def Nf(w wr vd st:Int):ah:=.g 7 [(41,.d w),(42,.d wr),(43,.d vd),(44,.d st)]
noncomputable def fi(b:Bool):Nat:=if b then 30 else 29
def FS(f:Fc)(c0 c1 sn:ah)(g b:Bool)(w wr st:Int)(D:aai)(N:S3)(vd dp:Int):Fc:={f with x:= {f.x with a:=if g then .e 6 else .h,c:=dp},k:=qY,h:=[.e (fi b)],b:=D.map Dg.I,c:=N,g:=if b then[c0,c1,sn,Nf w wr vd st]else[c0,sn,Nf w wr vd st]}
abbrev lq(i:Nat)(p:Int)(v:PV):PV:=.l i [.d 52,eS,.j [v],.d 0,.d p]
noncomputable abbrev gO(c:Nat)(p:Int):PV:=.l c [.d 1,.d 0,.j [],.d 0,.d p]
abbrev YA(i:Nat)(p:Int)(v:PV)(b:Bool)(a5:S7):dj:=[some (.a (.m 20 [])),some (.a (.e 17)),some (.a (lq i p v)),some (.a v),some (.a (.e (fi b))),a5]
theorem b2{α:Type}{F G:Bool->Bool->α}(e:(B2.map λx=>B2.map (F x))=B2.map λx=>B2.map (G x))(x y:Bool):F x y=G x y:=fY (fY (f:=λx=>B2.map (F x)) (g:=λx=>B2.map (G x)) e x) y
theorem kB{A B:Bool->Prop}(e:B2.map A=B2.map B)(x:Bool)(b:B x):A x:=fY e x▸b
theorem YM{α:Type}{L:List α}{A B:α->Bool->Prop}(e:(L.map λx=>B2.map (A x))=L.map λx=>B2.map (B x))(x:α)(y:Bool)(h:x∈L)(b:B x y):A x y:=kB (bV.mp e x h) y b
theorem kBM{α:Type}{L:List α}{A B:Bool->α->Prop}(e:(B2.map λy=>L.map (A y))=B2.map λy=>L.map (B y))(y:Bool)(x:α)(h:x∈L)(b:B y x):A y x:=kM (fY e y) x h b
theorem zi{α β:Type}{L:List α}{M:List β}{A B:α->β->Bool->Prop}(e:(L.map λx=>M.map λy=>B2.map (A x y))=L.map λx=>M.map λy=>B2.map (B x y))(x:α)(y:β)(z:Bool)(h:x∈L)(g:y∈M)(b:B x y z):A x y z:=YM (bV.mp e x h) y z g b
theorem zn{α β:Type}{L:List α}{M:List β}{A B:Bool->α->β->Prop}(e:(B2.map λz=>L.map λx=>M.map (A z x))=B2.map λz=>L.map λx=>M.map (B z x))(z:Bool)(x:α)(y:β)(g:y∈M)(h:x∈L)(b:B z x y):A z x y:=YL (fY e z) x y h g b
abbrev mx(n:Nat):CL:=jw [60,63,64,71] n
def eA(n:Nat)(s:St)(i:Nat)(p w:Int)(val:PV)(b:Bool)(k:KP):Prop:=av n 60 [.a (.e 17),.a val,.a (.d w)] s λt s=>ay (mx n) (Fx.d.I 7) (YA i p val b (some (.a t))) s (eF k)
def eC(n:Nat)(s:St)(i:Nat)(p w st:Int)(val:PV)(b:Bool)(k:KP):Prop:=if st=1 then av n 64 [.a (.e 17),.a (.d 2408),.a (lq i p val),.a (.f [])] s λJ s=>ay (mx n) (Fx.d.I 6) (YA i p val b none) s (eF k)else eA n s i p w val b k
theorem Hr(hs:st∈[(0:Int),1])(hv:∃c vs,val=.l c vs)(hi:ni[i]?=some u)(go:eC (n+1) (S4 d X (FS f c0 c1 sn g b w wr st D N 1 dp).I ([]::rg) ni) i p w st val b k):
  av (n+2) 72 [.a (.m 20 []),.a (.e 17),.a (lq i p val)] (S4 d X (FS f c0 c1 sn g b w wr st D N vd dp).I rg ni) k:=by
 obtain⟨c,vs,rfl⟩:=hv;have e:[(0:Int),1].map (λst=>B2.map λb=>B2.map λg=>ny (mx (n+1)) 72 [.a (.m 20 []),.a (.e 17),.a (lq i p (.l c vs))] (S4 d X (FS f c0 c1 sn g b w wr st D N vd dp).I rg ni) k)=[(0:Int),1].map λst=>B2.map λb=>B2.map λg=>yb (if g then some ni[i]? else none) (eC (n+1) (S4 d X (FS f c0 c1 sn g b w wr st D N 1 dp).I ([]::rg) ni) i p w st (.l c vs) b k) λo=>ob o λJ=>eC (n+1) (S4 d X (FS f c0 c1 sn g b w wr st D N 1 dp).I ([]::rg) ni) i p w st (.l c vs) b k:=by kernel_rfl
 have e2:=b2 (fN e hs) b g;refine fP [60,63,64,71] ?_;rw[e2,hi]
 induction g<;>exact go
theorem yc{t:PV}(hw:wr∈[(0:Int),1])(hv:val=gO c p)(go:if wr=0 then k .h (S4 d X (FS f c0 c1 sn g b w wr st D N vd dp).I rg ni)else av n 63 [.a (.e 17),.a val,.a t,.a (.d w),.a (.d p),.a (.d 2322)] (S4 d X (FS f c0 c1 sn g b w wr st D N vd dp).I ([]::rg) ni) λJ s=>k .h (s.I List.tail)){q:Int}:
  ay (mx n) (Fx.d.I 7) (YA i q val b (some (.a t))) (S4 d X (FS f c0 c1 sn g b w wr st D N vd dp).I ([]::rg) ni) (eF k):=by
 subst hv;revert go;revert hw;revert wr;revert b;exact @kBM _ _ _ _ (by kernel_rfl)
theorem Ln(go:eA n (S4 d X (FS f c0 c1 sn g b w wr st D N vd dp).I ([]::rg) ni) i p w val b k):
  ay (mx n) (Fx.d.I 6) (YA i p val b none) (S4 d X (FS f c0 c1 sn g b w wr st D N vd dp).I ([]::rg) ni) (eF k):=by
 revert b go;exact @kB _ _ (by kernel_rfl)
theorem En(hi:ni[i]?=some u)(go:av (n+1) 71 [.a (.e 17),.a (lq i p .h),.a (.e (fi b))] (S4 d X (FS f c0 c1 sn g b w wr st D N 1 dp).I ([]::rg) ni) λJ s=>k .h (s.I List.tail)):
  av (n+2) 72 [.a (.m 20 []),.a (.e 17),.a (lq i p .h)] (S4 d X (FS f c0 c1 sn g b w wr st D N vd dp).I rg ni) k:=by
 have e:(B2.map λb=>B2.map λg=>ny (mx (n+1)) 72 [.a (.m 20 []),.a (.e 17),.a (lq i p .h)] (S4 d X (FS f c0 c1 sn g b w wr st D N vd dp).I rg ni) k)=B2.map λb=>B2.map λg=>yb (if g then some ni[i]? else none) (av (n+1) 71 [.a (.e 17),.a (lq i p .h),.a (.e (fi b))] (S4 d X (FS f c0 c1 sn g b w wr st D N 1 dp).I ([]::rg) ni) λJ s=>k .h (s.I List.tail)) λo=>ob o λJ=>av (n+1) 71 [.a (.e 17),.a (lq i p .h),.a (.e (fi b))] (S4 d X (FS f c0 c1 sn g b w wr st D N 1 dp).I ([]::rg) ni) λJ s=>k .h (s.I List.tail):=by kernel_rfl
 have e2:=b2 e b g;refine fP [60,63,64,71] ?_;rw[e2,hi]
 induction g<;>exact go
theorem Rp(go:k .h (S4 d X (FS f c0 c1 sn g b h 0 st D N vd dp).I rg ni)):av (n+2) 71 [.a (.e 17),.a (lq i p val),.a (.e (fi b))] (S4 d X (FS f c0 c1 sn g b h 0 st D N vd dp).I rg ni) k:=by refine fP [62] ?_;revert b go;exact @kB _ _ (by kernel_rfl)
theorem Ro(hw:w∈cK)(go:if 3∈uG w then k .h (S4 d X (FS f c0 c1 sn g b w 1 st D N vd dp).I rg ni)else av (n+2) 62 [.a (.e 17),.a (.d 4),.a (.d w),.a (.d p),.a (.d 2322)] (S4 d X (FS f c0 c1 sn g b w 1 st D N vd dp).I ([]::rg) ni) λJ s=>k .h (s.I List.tail)):
  av (n+3) 71 [.a (.e 17),.a (lq i p val),.a (.e (fi b))] (S4 d X (FS f c0 c1 sn g b w 1 st D N vd dp).I rg ni) k:=by
 refine fP [62] ?_;revert go;revert hw;revert b;revert w;exact @YM _ _ _ _ (by kernel_rfl)

def v6:nP:=(Ng.d.I 3).J.I
abbrev Ee:XV:=bU (A1 (bx 0) 58 .e (bN (.d 1))) eG
abbrev wi(i:Nat)(p:Int)(val:PV):dj:=[some (.a (.e 17)),some (.a (lq i p val)),some (.a (.d 0))]
def dA(n i:Nat)(p:Int)(val:PV)(k:KP)(s:St):Prop:=ay (jw [72] n) (v6.I 2) (wi i p val) s λfl loc s=>Ee loc s λg loc s=>fb g (fb fl (eG loc s (eF k)) (eF k fl loc s)) False
theorem UY(go:av (n+1) 72 [.a (.m 20 []),.a (.e 17),.a (lq i p val)] (S4 d X (FS f c0 c1 sn g b w wr st D N vd 1).I ([]::rg) ni) λJ s=>dA (n+1) i p val k s):
  av (n+2) 68 [.a (.e 17),.a (lq i p val)] (S4 d X (FS f c0 c1 sn g b w wr st D N vd 0).I rg ni) k:=by
 refine fP [72] ?_;revert b go;exact @kB _ _ (by kernel_rfl)
theorem JJ(go:av (n+1) 72 [.a (.m 20 []),.a (.e 17),.a (lq i p val)] (S4 d X (FS f c0 c1 sn g b w wr st D N vd 1).I ([]::[]::rg) ni) λJ s=>dA (n+1) i p val (λJ s=>k .h (s.I List.tail)) s):
  av (n+3) 61 [.a (.e 17),.a (lq i p val)] (S4 d X (FS f c0 c1 sn g b w wr st D N vd 0).I rg ni) k:=in_w (UY go)
theorem nc(go:k .h (S4 d X (FS f c0 c1 sn g b w wr st D N vd 0).I rg ni)):dA n i p val k (S4 d X (FS f c0 c1 sn g b w wr st D N vd 1).I ([]::rg) ni):=by revert b go;exact @kB _ _ (by kernel_rfl)

structure Rz where
 X:S3
 D:aai
 N:S3
def Rz.J(z:Rz)(at_ v w:Int):Rz:=⟨uq z.X v w,k9 2322 at_ v w z.D,lM at_ v w z.N⟩
def Rz.I(w wr st:Int)(z:Rz)(p:Int)(o:aal):Rz:=match o with
 |some v=>
  let z:=if st=1 then {z with D:=z.D++[⟨2408,p,.f []⟩]}else z
  if wr=1 then z.J (p+1) v w else z
 |none=>if wr=1/\3∉uG w then z.J p 4 w else z
structure uu(z:Rz)(m:Nat)(p:Int):Prop where
 X:z.X.length+m<900
 D:z.D.length+2*m<80000
 N:z.N.length+m<80000
 a:∀e∈z.D,e.b<p
theorem Mk:(uq X v w).length<=X.length+1:=by
 unfold uq;split
 .obtain⟨J,J,h⟩:=jY (X:=X) (row:=iG 23 0);rcases h with h|h<;>rw[h]
  .exact bL _
  .exact bZ aa
 .exact bL _
theorem BE:(lM at_ v w N).length<=N.length+1:=by
 unfold lM;split
 .exact bZ aa
 .exact bL _
theorem wc:(k9 num at_ v w D).length<=D.length+1:=by
 unfold k9;split
 .exact bL _
 .exact bZ aa
theorem Q9{num at_ q:Int}(h:∀e∈D,e.b<q)(hq:at_<q):∀e∈k9 num at_ v w D,e.b<q:=by
 unfold k9;split
 .exact h
 .exactλe he=>(aS.mp he).elim (h e) λhe=>by rw[aB.mp he];exact hq
theorem uu.I{z:Rz}{m:Nat}{o:aal}(h:uu z (m+1) p):uu (z.I w wr st p o) m (p+2):=by
 obtain⟨X,D,N⟩:=z;obtain⟨h1,h2,h3,h4⟩:=h;dsimp only at h1 h2 h3 h4
 have Xk:∀e∈D,e.b<p+2:=λe he=>by have:=h4 e he;exact iT2 ja (.a jb iH) [.b ja jb] rfl this
 have key:∀{D':aai}{at_ v:Int},D'.length<=D.length+1->(∀e∈D',e.b<p+2)->at_<p+2->uu (Rz.J ⟨X,D',N⟩ at_ v w) m (p+2):=λ{D' at_ v} l1 l2 l3=>⟨by have:=Mk (X:=X) (v:=v) (w:=w);show(uq X v w).length+m<900;exact lS (.a ja jb) eH [.b (.a jc (.a jb aU)) eH,.a ja (.a jc aU)] rfl h1 this,by have:=wc (D:=D') (num:=2322) (at_:=at_) (v:=v) (w:=w);show(k9 2322 at_ v w D').length+2*m<80000;exact Xp (.a ja (.m 2 jb)) cC [.b (.a jc (.m 2 (.a jb aU))) cC,.a jd (.a jc aU),.a ja (.a jd aU)] rfl h2 l1 this,by have:=BE (N:=N) (at_:=at_) (v:=v) (w:=w);show(lM at_ v w N).length+m<80000;exact lS (.a ja jb) cC [.b (.a jc (.a jb aU)) cC,.a ja (.a jc aU)] rfl h3 this,Q9 l2 l3⟩
 have same:∀{D':aai},D'.length<=D.length+1->(∀e∈D',e.b<p+2)->uu ⟨X,D',N⟩ m (p+2):=λl1 l2=>⟨by show X.length+m<900;exact fh (.a ja jb) eH [.b (.a ja (.a jb aU)) eH] rfl h1,by dsimp only;exact lS (.a ja (.m 2 jb)) cC [.b (.a jc (.m 2 (.a jb aU))) cC,.a ja (.a jc aU)] rfl h2 l1,by show N.length+m<80000;exact fh (.a ja jb) cC [.b (.a ja (.a jb aU)) cC] rfl h3,l2⟩
 have D1:∀e∈D++[⟨2408,p,.f []⟩],e.b<p+2:=λe he=>(aS.mp he).elim (Xk e) λhe=>by rw[aB.mp he];show p<p+2;exact TH ja (.a ja iH) [] rfl
 have L1:(D++[Dg.mk 2408 p (.f [])]).length<=D.length+1:=bZ aa
 induction o with
 |none=>
  show uu (if wr=1/\3∉uG w then Rz.J ⟨X,D,N⟩ p 4 w else⟨X,D,N⟩) m (p+2)
  split
  .exact key (bL _) Xk (by exact TH ja (.a ja iH) [] rfl)
  .exact same (bL _) Xk
 |some v=>
  show uu (if wr=1 then Rz.J (if st=1 then⟨X,D++[⟨2408,p,.f []⟩],N⟩else⟨X,D,N⟩) (p+1) v w else if st=1 then⟨X,D++[⟨2408,p,.f []⟩],N⟩else⟨X,D,N⟩) m (p+2)
  split<;>split
  .exact key L1 D1 (by exact TH (.a ja aU) (.a ja iH) [] rfl)
  .exact key (bL _) Xk (by exact TH (.a ja aU) (.a ja iH) [] rfl)
  .exact same L1 D1
  .exact same (bL _) Xk

variable{m:Nat}{u2:Int}{z:Rz}
theorem Dj(hv:v∈i9)(hw:w∈cK)(hX:X.length<900)(hd:∀e∈D,e.b<at_)(hl:D.length<90000)(hN:N.length<90000)(go:k (.g (rL v w)) (S4 d (uq X v w) (FS f c0 c1 sn g b w wr st (k9 2322 at_ v w D) (lM at_ v w N) vd dp).I rg ni)):
  av (n+8) 69 [.a (.e 17),.a nd,.a (.d v),.a (.d w),.a (.d at_),.a (.d 2322)] (S4 d X (FS f c0 c1 sn g b w wr st D N vd dp).I rg ni) k:=
 Q8 (f:=FS f c0 c1 sn g b w wr st [] [] vd dp) hv hw hX (λe he h=>by have:=hd e he;exact Nd [.e ja jb,.b ja jb] rfl h.2 this) hl hN go
theorem Vg(hw:wr=0\/(wr=1/\st=0/\w∈cK))(hs:st∈[(0:Int),1])(hi:ni[i]?=some u)(hc:ni[c]?=some u2)(hv:v∈i9)(ht:bA (.d u2) f.a=some (.d v))(R:uu z (m+1) p)
  (go:k .h (S4 d (z.I w wr st p (some v)).X (FS f c0 c1 sn g b w wr st (z.I w wr st p (some v)).D (z.I w wr st p (some v)).N 1 0).I rg ni)):
  av (n+12) 61 [.a (.e 17),.a (lq i p (gO c (p+1)))] (S4 d z.X (FS f c0 c1 sn g b w wr st z.D z.N vd 0).I rg ni) k:=by
 obtain⟨X,D,N⟩:=z;obtain⟨h1,h2,h3,h4⟩:=R;dsimp only at h1 h2 h3 h4⊢
 refine JJ (n:=n+9) ?_;refine Hr (n:=n+8) hs ⟨_,_,rfl⟩ hi ?_;have tail:∀{D':aai}{k:KP}{rg:V5},wr=0->k .h (S4 d X (FS f c0 c1 sn g b w wr st D' N 1 1).I rg ni)->eA (n+9) (S4 d X (FS f c0 c1 sn g b w wr st D' N 1 1).I ([]::rg) ni) i p w (gO c (p+1)) b k:=λ{D' k rg} e K=>by
  refine vJ (n:=n+7) (f:=FS f c0 c1 sn g b w wr st D' N 1 1) hc ht ?_;refine yc (p:=p+1) (by rcases hw with h|h;rw[h];decide;rw[h.1];decide) rfl ?_
  rw[if_pos e];exact K
 rcases hw with e|⟨e,e2,hw⟩
 .simp only[aF,gm,or_false]at hs
  rcases hs with e2|e2
  .subst e e2;exact tail rfl (nc go)
  .subst e e2;refine in_w ?_;refine yF (f:=FS f c0 c1 sn g b w 0 1 [] [] 1 1) (D:=D) (N:=N) (λe he h=>by have:=h4 e he;exact Nd [.e ja jb,.b ja jb] rfl h.2 this) (by exact fh ja br [.b (.a ja (.m 2 (.a jb aU))) cC] rfl h2) ?_
   refine Ln (D:=D++[⟨2408,p,.f []⟩]) ?_;exact tail rfl (nc go)
 .subst e e2;refine vJ (n:=n+7) (f:=FS f c0 c1 sn g b w 1 0 D N 1 1) hc ht ?_;refine yc (p:=p+1) (by decide) rfl ?_
  rw[if_neg (by decide)]
  refine in_w ?_;exact Dj hv hw (by exact fh ja eH [.b (.a ja (.a jb aU)) eH] rfl h1) (λe he=>by have:=h4 e he;exact iT2 ja (.a jb aU) [.b ja jb] rfl this) (by exact fh ja br [.b (.a ja (.m 2 (.a jb aU))) cC] rfl h2) (by exact fh ja br [.b (.a ja (.a jb aU)) cC] rfl h3) (nc (n:=n+10) (i:=i) (p:=p) (val:=gO c (p+1)) go)
theorem Vh(hw:wr=0\/(wr=1/\w∈cK))(hi:ni[i]?=some u)(R:uu z (m+1) p)
  (go:k .h (S4 d (z.I w wr st p none).X (FS f c0 c1 sn g b w wr st (z.I w wr st p none).D (z.I w wr st p none).N 1 0).I rg ni)):
  av (n+14) 61 [.a (.e 17),.a (lq i p .h)] (S4 d z.X (FS f c0 c1 sn g b w wr st z.D z.N vd 0).I rg ni) k:=by
 obtain⟨X,D,N⟩:=z;obtain⟨h1,h2,h3,h4⟩:=R;dsimp only at h1 h2 h3 h4⊢
 refine JJ (n:=n+11) ?_;refine En (n:=n+10) hi ?_;rcases hw with e|⟨e,hw⟩
 .subst e;exact Rp (n:=n+9) (nc (n:=n+12) (i:=i) (p:=p) (val:=.h) go)
 .subst e;refine Ro (n:=n+8) hw ?_;split
  .rename_i h3;rw[show Rz.I w 1 st ⟨X,D,N⟩ p none=⟨X,D,N⟩from if_neg λh=>h.2 h3]at go
   exact nc (n:=n+12) (i:=i) (p:=p) (val:=.h) go
  .rename_i h3';rw[show Rz.I w 1 st ⟨X,D,N⟩ p none=Rz.J ⟨X,D,N⟩ p 4 w from if_pos ⟨rfl,h3'⟩]at go
   refine in_w ?_;exact Dj (by decide) hw (by exact fh ja eH [.b (.a ja (.a jb aU)) eH] rfl h1) h4 (by exact fh ja br [.b (.a ja (.m 2 (.a jb aU))) cC] rfl h2) (by exact fh ja br [.b (.a ja (.a jb aU)) cC] rfl h3) (nc (n:=n+12) (i:=i) (p:=p) (val:=.h) go)

noncomputable def n7(f:Fc):Fc:= {f with h:=[]}
noncomputable def vj(f:Fc)(x:PV):Fc:= {f with x:= {f.x with d:=x}}
abbrev eQ(id:Nat)(ks:S3)(fl:Int)(b:Bool)(f:Fc):dj:=[some (.a (.e 17)),some (.a (nO id ks fl)),some (.a (.e (fi b))),some (.a f.x.e),some (.a f.x.d)]
def eR(n:Nat)(l:dj)(k:KP)(s:St):Prop:=bU (xD (oJ (jw [46] n) (fT (bx 0) 57) 37 d9)) (bU (o7 (bx 0) 54 (bx 3)) (bU (o7 (bx 0) 55 (bx 4)) eG)) l s λg loc s=>fb g (eG loc s (eF k)) False
noncomputable abbrev yR:S1:=[16,4,32,96,12]
theorem Bb(hf:fl∈160::256::yR)(hs:st=if fl=160 then 1 else 0)(hi:ni[id]?=some u)(go:av (n+1) 46 [.a (.e 17),.a (nO id [k0,k1,k2,k3] fl),.a (.e (fi b))] (S4 d X (vj (FS f c0 c1 sn g b w wr st D N vd dp) eL).I ([]::rg) ni) λJ s=>eR (n+1) (eQ id [k0,k1,k2,k3] fl b f) k s):
  av (n+2) 47 [.a (.e 17),.a (nO id [k0,k1,k2,k3] fl),.a (.e (fi b))] (S4 d X (n7 (FS f c0 c1 sn g b w wr st D N vd dp)).I rg ni) k:=by
 subst hs;have e:(160::256::yR).map (λfl=>B2.map λb=>ny (jw [46] (n+1)) 47 [.a (.e 17),.a (nO id [k0,k1,k2,k3] fl),.a (.e (fi b))] (S4 d X (n7 (FS f c0 c1 sn g b w wr (if fl=160 then 1 else 0) D N vd dp)).I rg ni) k)=(160::256::yR).map λfl=>B2.map λb=>ob ni[id]? λJ=>av (n+1) 46 [.a (.e 17),.a (nO id [k0,k1,k2,k3] fl),.a (.e (fi b))] (S4 d X (vj (FS f c0 c1 sn g b w wr (if fl=160 then 1 else 0) D N vd dp) eL).I ([]::rg) ni) λJ s=>eR (n+1) (eQ id [k0,k1,k2,k3] fl b f) k s:=by kernel_rfl
 have e2:=fY (fN e hf) b;refine fP [46] ?_;rw[e2,hi];exact go
theorem pI(go:k .h (S4 d X (n7 (FS f c0 c1 sn g b w wr st D N vd dp)).I rg ni)){ks:S3}:eR n (eQ id ks fl b f) k (S4 d X (vj (FS f c0 c1 sn g b w wr st D N vd dp) eL).I ([]::rg) ni):=by revert b go;exact @kB _ _ (by kernel_rfl)

variable{en:Bool}{ks:S3}
noncomputable abbrev Fi(i:Nat):PV:=.l i [.d 80,.k "string",.j [],.d 0,.d 7]
abbrev EU(i:Nat)(p:Int)(ks:S3):PV:=.l i [.d 59,eS,.j ks,.d 0,.d p]
abbrev gL(n:Nat):CL:=jw [40,64,45,60,63] n
abbrev YE(id i:Nat)(k0 k1 k3:PV)(fl w:Int)(b:Bool):dj:=[some (.a (.e 17)),some (.a (nO id [k0,k1,Fi i,k3] fl)),some (.a (.e (fi b))),some (.a (Fi i)),some (.a (.d w))]
def free(w:Int):Bool:=decide (w=0)||(decide (w=13)||(decide (w=4)||decide (3∈uG w)))
def YF(n:Nat)(l:dj)(k:KP)(v:PV)(s:St):Prop:=um (Ut (bN v)) (bU RW eG) eG l s λfl loc s=>fb fl (ay (gL n) (Nh.d.I 4) loc s (eF k)) (eF k fl loc s)
theorem HN(hw:w∈cK)(go:if free w then k .h (S4 d X (FS f c0 c1 sn g b w wr st D N vd dp).I rg ni)else av (n+3) 40 [.a (.e 17),.a (nO id [k0,k1,Fi i,k3] fl)] (S4 d X (FS f c0 c1 sn g b w wr st D N vd dp).I ([]::rg) ni) (YF (n+3) (YE id i k0 k1 k3 fl w b) k)):
  av (n+4) 45 [.a (.e 17),.a (nO id [k0,k1,Fi i,k3] fl),.a (.e (fi b))] (S4 d X (FS f c0 c1 sn g b w wr st D N vd dp).I rg ni) k:=by
 refine fP [40,64,45,60,63] ?_;revert go;revert hw;revert b;revert w;exact @YM _ _ _ _ (by kernel_rfl)
def l7(w vd:Int):Int:=if w=2 then 2534 else if vd=0 then 2355 else if rL 4 w then 0 else 2366
theorem HM(hw:w∈cK)(hv:vd∈[(0:Int),1])(go:if en=true/\l7 w vd≠0 then av (n+7) 64 [.a (.e 17),.a (.d (l7 w vd)),.a (Fi i),.a (.f [])] (S4 d X (FS f c0 c1 sn g b w wr st D N vd dp).I ([]::rg) ni) λJ s=>k .h (s.I List.tail)else k .h (S4 d X (FS f c0 c1 sn g b w wr st D N vd dp).I rg ni)):
  YF (n+7) (YE id i k0 k1 k3 fl w b) k (.g en) (S4 d X (FS f c0 c1 sn g b w wr st D N vd dp).I ([]::rg) ni):=by
 have e:cK.map (λw=>[(0:Int),1].map λvd=>B2.map λb=>B2.map λen=>YF (n+7) (YE id i k0 k1 k3 fl w b) k (.g en) (S4 d X (FS f c0 c1 sn g b w wr st D N vd dp).I ([]::rg) ni))=cK.map λw=>[(0:Int),1].map λvd=>B2.map λb=>B2.map λen=>if en=true/\l7 w vd≠0 then av (n+7) 64 [.a (.e 17),.a (.d (l7 w vd)),.a (Fi i),.a (.f [])] (S4 d X (FS f c0 c1 sn g b w wr st D N vd dp).I ([]::rg) ni) λJ s=>k .h (s.I List.tail)else k .h (S4 d X (FS f c0 c1 sn g b w wr st D N vd dp).I rg ni):=by kernel_rfl
 have e2:=b2 (fN (fN (f:=λw=>[(0:Int),1].map λvd=>B2.map λb=>B2.map λen=>YF (n+7) (YE id i k0 k1 k3 fl w b) k (.g en) (S4 d X (FS f c0 c1 sn g b w wr st D N vd dp).I ([]::rg) ni)) e hw) hv) b en
 rw[e2];exact go
theorem ES(hf:fl∈[(16:Int),4,32,96,160,256])(hw:wr∈[(0:Int),1])(go:if wr=1 then av (n+3) 45 [.a (.e 17),.a (nO id [k0,k1,k2,EU c p ks] fl),.a (.e (fi b))] (S4 d X (vj (FS f c0 c1 sn g b w wr st D N vd 0) eL).I ([]::rg) ni) λJ s=>k .h (s.I List.tail)else k .h (S4 d X (vj (FS f c0 c1 sn g b w wr st D N vd 0) eL).I rg ni)):
  av (n+4) 46 [.a (.e 17),.a (nO id [k0,k1,k2,EU c p ks] fl),.a (.e (fi b))] (S4 d X (vj (FS f c0 c1 sn g b w wr st D N vd 0) eL).I rg ni) k:=by
 refine fP [40,64,45,60,63] ?_;revert go;revert hw;revert hf;revert fl;revert wr;revert b;exact @zn _ _ _ _ _ _ (by kernel_rfl)

abbrev beL(id:Nat)(k0 k1 k2:PV)(c:Nat)(b:Bool)(t:PV):dj:=[some (.a (.e 17)),some (.a (nO id [k0,k1,k2,gO c 8] 12)),some (.a (.e (fi b))),some (.a (gO c 8)),some (.a t)]
theorem Ih(go:av (n+3) 60 [.a (.e 17),.a (gO c 8),.a (.d w)] (S4 d X (vj (FS f c0 c1 sn g b w wr st D N vd dp) eL).I ([]::rg) ni) λt s=>ay (gL (n+3)) (I8.d.I 3) (beL id k0 k1 k2 c b t) s (eF k)):
  av (n+4) 46 [.a (.e 17),.a (nO id [k0,k1,k2,gO c 8] 12),.a (.e (fi b))] (S4 d X (vj (FS f c0 c1 sn g b w wr st D N vd dp) eL).I rg ni) k:=by
 refine fP [40,64,45,60,63] ?_;revert b go;exact @kB _ _ (by kernel_rfl)
theorem MJ{t:PV}(hw:wr∈[(0:Int),1])(go:if wr=1 then av n 63 [.a (.e 17),.a (gO c 8),.a t,.a (.d w),.a (.d 8),.a (.d 2322)] (S4 d X (vj (FS f c0 c1 sn g b w wr st D N vd dp) eL).I ([]::rg) ni) λJ s=>k .h (s.I List.tail)else k .h (S4 d X (vj (FS f c0 c1 sn g b w wr st D N vd dp) eL).I rg ni)):
  ay (gL n) (I8.d.I 3) (beL id k0 k1 k2 c b t) (S4 d X (vj (FS f c0 c1 sn g b w wr st D N vd dp) eL).I ([]::rg) ni) (eF k):=by
 revert go;revert hw;revert wr;revert b;exact @kBM _ _ _ _ (by kernel_rfl)
def qg(w wr vd:Int)(en:Bool)(D:aai):aai:=if wr=1/\free w=false/\en=true/\l7 w vd≠0 then D++[⟨l7 w vd,7,.f []⟩]else D
theorem Hq(hf:fl∈[(16:Int),4,32,96,160,256])(hs:st=if fl=160 then 1 else 0)(hi:ni[id]?=some u)(hw:wr=0\/(wr=1/\w∈cK/\∃i,k2=Fi i))(hv:vd∈[(0:Int),1])(hd:∀e∈D,e.a=2322\/e.a=2408)(hl:D.length<90000)
  (E:wr=1->∀{k rg},k (.g en) (S4 d X (FS (vj f eL) c0 c1 sn g b w wr st D N vd 0).I rg ni)->av (n+7) 40 [.a (.e 17),.a (nO id [k0,k1,k2,EU c p ks] fl)] (S4 d X (FS (vj f eL) c0 c1 sn g b w wr st D N vd 0).I rg ni) k)
  (go:k .h (S4 d X (n7 (FS f c0 c1 sn g b w wr st (qg w wr vd en D) N vd 0)).I rg ni)):
  av (n+10) 47 [.a (.e 17),.a (nO id [k0,k1,k2,EU c p ks] fl),.a (.e (fi b))] (S4 d X (n7 (FS f c0 c1 sn g b w wr st D N vd 0)).I rg ni) k:=by
 refine Bb ((by decide:∀fl∈[(16:Int),4,32,96,160,256],fl∈160::256::yR) fl hf) hs hi ?_
 refine ES (n:=n+5) hf (by rcases hw with h|h;rw[h];decide;rw[h.1];decide) ?_
 rcases hw with e|⟨e,hw,i,rfl⟩
 .subst e;rw[if_neg (by decide)]
  rw[show qg w 0 vd en D=D from if_neg λh=>absurd h.1 (by decide)]at go
  exact pI go
 .subst e;rw[if_pos rfl];refine HN (n:=n+4) (f:=vj f eL) hw ?_;by_cases YW:free w=true
  .rw[if_pos YW];rw[show qg w 1 vd en D=D from if_neg λh=>by rw[YW]at h;exact absurd h.2.1 (by decide)]at go
   exact pI go
  .rw[if_neg YW];refine E rfl ?_;refine HM (n:=n) hw hv ?_;by_cases hm:en=true/\l7 w vd≠0
   .rw[if_pos hm];rw[show qg w 1 vd en D=D++[⟨l7 w vd,7,.f []⟩]from if_pos ⟨rfl,dg.mpr YW,hm⟩]at go
    refine in_w ?_;have hn:l7 w vd≠2322/\l7 w vd≠2408:=(by decide:∀w∈cK,∀vd∈[(0:Int),1],l7 w vd≠2322/\l7 w vd≠2408) w hw vd hv
    exact yF (f:=FS (vj f eL) c0 c1 sn g b w 1 st [] [] vd 0) (λe he h=>by rcases hd e he with h2|h2;exact hn.1 (h.1.symm.trans h2);exact hn.2 (h.1.symm.trans h2)) hl (pI (n:=n+9) (id:=id) (fl:=fl) (ks:=[k0,k1,Fi i,EU c p ks]) go)
   .rw[if_neg hm];rw[show qg w 1 vd en D=D from if_neg λh=>hm h.2.2]at go
    exact pI go
theorem Lm(hi:ni[id]?=some u)(hw:wr=0\/(wr=1/\w∈cK))(hc:ni[c]?=some u2)(hv:v∈i9)(ht:bA (.d u2) f.a=some (.d v))(R:uu z 1 8)
  (go:k .h (S4 d (if wr=1 then z.J 8 v w else z).X (n7 (FS f c0 c1 sn g b w wr 0 (if wr=1 then z.J 8 v w else z).D (if wr=1 then z.J 8 v w else z).N vd dp)).I rg ni)):
  av (n+13) 47 [.a (.e 17),.a (nO id [k0,k1,k2,gO c 8] 12),.a (.e (fi b))] (S4 d z.X (n7 (FS f c0 c1 sn g b w wr 0 z.D z.N vd dp)).I rg ni) k:=by
 obtain⟨X,D,N⟩:=z;obtain⟨h1,h2,h3,h4⟩:=R;dsimp only at h1 h2 h3 h4⊢
 refine Bb (n:=n+11) (by decide) (by decide) hi ?_
 refine Ih (n:=n+8) ?_;refine vJ (n:=n+9) (f:=FS (vj f eL) c0 c1 sn g b w wr 0 D N vd dp) hc ht ?_;refine MJ (by rcases hw with h|h;rw[h];decide;rw[h.1];decide) ?_
 rcases hw with e|⟨e,hw⟩
 .subst e;rw[if_neg (by decide)]at go⊢
  exact pI go
 .subst e;rw[if_pos rfl]at go⊢
  refine in_w ?_;exact Dj (f:=vj f eL) (D:=D) (N:=N) hv hw (by exact fJ ja eH [.b (.a ja aU) eH] rfl h1) h4 (by exact fJ ja br [.b (.a ja (.m 2 aU)) cC] rfl h2) (by exact fJ ja br [.b (.a ja aU) cC] rfl h3) (pI (n:=n+12) (id:=id) (fl:=12) (ks:=[k0,k1,k2,gO c 8]) go)

variable{s:Int}{F M:S3}{wb:Bool}{q:KX}
def mA(v:Int):Nat:=if v=0\/v=1 then 4095 else mN v
noncomputable def Y6(v:Int):Int:=if v=25\/v=23\/v=15\/v=26\/v=14 then 1 else 0
abbrev dz(v:Int):PV:=.f [.d v,.d (mA v),.d (Y6 v)]
noncomputable abbrev Eo:PV:=.f [.d (-1),.d 0,.d 0]
abbrev iX(w:Int):PV:=.f [.d w,.d (NH w)]
noncomputable abbrev t2(a b:Int):PV:=.f [.d a,.d b]
def Xl:nP:=(Af.d.I 3).J.I
abbrev xZ(w s:Int)(wb en:Bool)(nd row a:S7):dj:=[some (.a (.e 27)),some (.a (iX w)),some (.a (.d s)),some (.a (.g wb)),some (.a (.g en)),some (.b 0 0),some (.b 0 1),some (.a (.g (Builtin.bitAnd (NH w) 2560==512))),nd,row,a]
def ap(F:S3)(x:PV)(c:S3->Prop):Prop:=gb (decide (F.length<100000)) (c (F++[x]))
noncomputable abbrev eT:S1:=[0,1,2,3,5,6,7]
def YI(F M:S3)(at_ v w:Int)(c:S3->S3->Prop):Prop:=if rL v w then(if z5 v w then ap M (t2 1 at_) λM=>c F M else c F M)else ap F (t2 2322 at_) λF=>c F M
noncomputable abbrev u9(pm:V6)(F M:S3)(rg:V5)(ni:S1):St:=⟨pm,[.a F,.a M]::rg,ni⟩
def YJ(s p:Int)(F:S3)(val:Bool)(T:S3->Prop):Prop:=tb (some (s==5)) (tb (some (s==5)) (T F) (ap F (t2 2408 p) T)) (if val then ap F (t2 2408 p) T else T F)
theorem VD{a:S7}(hv:v∈i9)(hw:w∈cK)
  (go:YJ s p F true λF=>if wb then tb (some (s==4)) (YI F M (p+1) v w λF M=>q .a (xZ w s wb en (some (.a (lq i p (gO c (p+1))))) (some (.a (dz v))) (some (.a (.d (p+1))))) (u9 pm F M rg ni)) (YI F M p v w λF M=>q .a (xZ w s wb en (some (.a (lq i p (gO c (p+1))))) (some (.a (dz v))) (some (.a (.d p)))) (u9 pm F M rg ni))else q .a (xZ w s wb en (some (.a (lq i p (gO c (p+1))))) (some (.a (dz v))) a) (u9 pm F M rg ni)):
  ay (jw [] (n+1)) Xl (xZ w s wb en (some (.a (lq i p (gO c (p+1))))) (some (.a (dz v))) a) (u9 pm F M rg ni) q:=by
 revert go;revert hw;revert hv;revert wb;revert w;revert v;exact @zi _ _ _ _ _ _ (by kernel_rfl)
theorem LR{a:S7}(hw:w∈cK)
  (go:YJ s p F false λF=>(if wb/\3∉uG w/\rL 4 w=false then ap F (t2 2322 p)else λc=>c F) λF=>q .a (xZ w s wb en (some (.a (lq i p .h))) (some (.a Eo)) a) (u9 pm F M rg ni)):
  ay (jw [] (n+1)) Xl (xZ w s wb en (some (.a (lq i p .h))) (some (.a Eo)) a) (u9 pm F M rg ni) q:=by
 revert go;revert hw;revert wb;revert w;exact @YM _ _ _ _ (by kernel_rfl)

variable{kd:Nat->Int}
abbrev sZ(e:Dg):PV:=t2 e.a e.b
def j6(kd:Nat->Int)(w wr st:Int)(z:Rz)(rs:WG):Rz:=rs.foldl (λz r=>z.I w wr st r.p (r.v.map λx=>kd x.2)) z
abbrev jS(kd:Nat->Int)(r:Rt):PV:=.f [r.I.I,match r.v with
 |some x=>dz (kd x.2)
 |none=>Eo]
theorem Ca{x:PV}{c:S3->Prop}(hl:F.length<100000)(h:c (F++[x])):ap F x c:=dP hl h
theorem ZV{val:Bool}{T:S3->Prop}(hl:F.length<100000)(h:T (if val=true/\s=5 then F++[t2 2408 p]else F)):YJ s p F val T:=by
 by_cases hs:s=5
 .refine kL (beq_iff_eq.mpr hs) ?_;induction val
  .rw[if_neg (by simp)]at h⊢;exact h
  .rw[if_pos ⟨rfl,hs⟩]at h
   rw[if_pos rfl];exact Ca hl h
 .rw[if_neg λh=>hs h.2]at h
  exact fW (beq_eq_false_iff_ne.mpr hs) (fW (beq_eq_false_iff_ne.mpr hs) h)
theorem ZU{T:S3->Prop}(h:T F):YJ s p F false T:=by
 by_cases hs:s=5
 .exact kL (beq_iff_eq.mpr hs) h
 .exact fW (beq_eq_false_iff_ne.mpr hs) (fW (beq_eq_false_iff_ne.mpr hs) h)
theorem ZT{c:S3->S3->Prop}(hD:D.length<90000)(hN:N.length<90000)(h:c ((k9 2322 at_ v w D).map sZ) (lM at_ v w N)):YI (D.map sZ) N at_ v w c:=by
 unfold YI;unfold k9 lM at h
 induction hg:rL v w
 .rw[hg,if_neg aO,xC,if_neg aO,aD]at h
  rw[if_neg aO];exact Ca (by rw[ao];exact fJ ja aX [.b ja br] rfl hD) h
 .rw[hg,if_pos rfl,sd]at h
  rw[if_pos rfl]
  induction ha:z5 v w
  .rw[ha,if_neg aO]at h
   rw[if_neg aO];exact h
  .rw[ha,if_pos rfl]at h
   rw[if_pos rfl];exact Ca (by exact fJ ja aX [.b ja br] rfl hN) h
theorem VE{r:Rt}{a:S7}{nd row:S7}(hv:∀x,r.v=some x->kd x.2∈i9)(hw:w∈cK)(hs:s≠4)(Xr:st=if s=5 then 1 else 0)(YS:wr=if wb then 1 else 0)(h5:s=5->wb=false)(hD:z.D.length+2<80000)(hN:z.N.length+1<80000)
  (go:∀a,q .a (xZ w s wb en (some (.a r.I.I)) (some (.a (match r.v with|some x=>dz (kd x.2)|none=>Eo))) a) (u9 pm ((z.I w wr st r.p (r.v.map λx=>kd x.2)).D.map sZ) (z.I w wr st r.p (r.v.map λx=>kd x.2)).N rg ni)):
  ay (jw [] (n+1)) Xl (xZ w s wb en (some (.a r.I.I)) (some (.a (match r.v with|some x=>dz (kd x.2)|none=>Eo))) a) (u9 pm (z.D.map sZ) z.N rg ni) q:=by
 obtain⟨X,D,N⟩:=z;obtain⟨i,p,o⟩:=r;dsimp only at hD hN
 subst Xr YS;obtain _|x:=o
 .refine LR hw (ZU ?_);have go:=go a;by_cases hc:wb=true/\3∉uG w/\rL 4 w=false
  .rw[if_pos hc];refine Ca (by rw[ao];exact fJ ja aX [.b (.a ja iH) cC] rfl hD) ?_
   have e:Rz.I w (if wb=true then 1 else 0) (if s=5 then 1 else 0) ⟨X,D,N⟩ p none=⟨uq X 4 w,D++[⟨2322,p,IP 4 w⟩],N⟩:=by rw[if_pos hc.1];refine(if_pos (c:=(1:Int)=1/\3∉uG w) ⟨rfl,hc.2.1⟩).trans ?_;unfold Rz.J k9 lM;rw[hc.2.2];rfl
   rw[show Option.map (λx=>kd x.2) (Rt.mk i p none).v=none from rfl,e]at go
   rw[show(Rz.mk (uq X 4 w) (D++[⟨2322,p,IP 4 w⟩]) N).D=D++[⟨2322,p,IP 4 w⟩]from rfl,aD]at go
   exact go
  .rw[if_neg hc];have e:(Rz.I w (if wb=true then 1 else 0) (if s=5 then 1 else 0) ⟨X,D,N⟩ p none).D=D/\(Rz.I w (if wb=true then 1 else 0) (if s=5 then 1 else 0) ⟨X,D,N⟩ p none).N=N:=by
    show(if(if wb=true then(1:Int)else 0)=1/\3∉uG w then Rz.J ⟨X,D,N⟩ p 4 w else⟨X,D,N⟩).D=D/\(if(if wb=true then(1:Int)else 0)=1/\3∉uG w then Rz.J ⟨X,D,N⟩ p 4 w else⟨X,D,N⟩).N=N
    by_cases h:(if wb=true then(1:Int)else 0)=1/\3∉uG w
    .rw[if_pos h];have hwb:wb=true:=by induction wb;exact absurd h.1 (by decide);rfl
     have hg:rL 4 w=true:=by induction hg:rL 4 w;exact absurd ⟨hwb,h.2,hg⟩ hc;rfl
     exact⟨by show k9 _ _ _ _ _=_;unfold k9;rw[if_pos hg],by show lM _ _ _ _=_;unfold lM;rw[hg];rfl⟩
    .rw[if_neg h];exact⟨rfl,rfl⟩
   rw[show Option.map (λx=>kd x.2) (Rt.mk i p none).v=none from rfl,e.1,e.2]at go
   exact go
 .have hv:=hv x rfl;refine VD (c:=x.1) hv hw (ZV (by rw[ao];exact fJ ja aX [.b (.a ja iH) cC] rfl hD) ?_)
  have e1:(if true=true/\s=5 then D.map sZ++[t2 2408 p]else D.map sZ)=(if(if s=5 then(1:Int)else 0)=1 then D++[⟨2408,p,.f []⟩]else D).map sZ:=by
   by_cases h:s=5
   .rw[if_pos ⟨rfl,h⟩,if_pos h,if_pos rfl,aD];rfl
   .rw[if_neg λh2=>h h2.2,if_neg h,if_neg (by decide)]
  rw[e1];have hl:(if(if s=5 then(1:Int)else 0)=1 then D++[Dg.mk 2408 p (.f [])]else D).length<=D.length+1:=by
   split
   .exact bZ aa
   .exact bL _
  have eD:(if(if s=5 then(1:Int)else 0)=1 then(⟨X,D++[⟨2408,p,.f []⟩],N⟩:Rz)else⟨X,D,N⟩)=⟨X,if(if s=5 then(1:Int)else 0)=1 then D++[⟨2408,p,.f []⟩]else D,N⟩:=by split<;>rfl
  have go:∀a,q .a (xZ w s wb en (some (.a (lq i p (gO x.1 (p+1))))) (some (.a (dz (kd x.2)))) a) (u9 pm ((if(if wb=true then(1:Int)else 0)=1 then Rz.J (if(if s=5 then(1:Int)else 0)=1 then⟨X,D++[⟨2408,p,.f []⟩],N⟩else⟨X,D,N⟩) (p+1) (kd x.2) w else if(if s=5 then(1:Int)else 0)=1 then⟨X,D++[⟨2408,p,.f []⟩],N⟩else⟨X,D,N⟩).D.map sZ) (if(if wb=true then(1:Int)else 0)=1 then Rz.J (if(if s=5 then(1:Int)else 0)=1 then⟨X,D++[⟨2408,p,.f []⟩],N⟩else⟨X,D,N⟩) (p+1) (kd x.2) w else if(if s=5 then(1:Int)else 0)=1 then⟨X,D++[⟨2408,p,.f []⟩],N⟩else⟨X,D,N⟩).N rg ni):=go
  rw[eD]at go
  generalize (if(if s=5 then(1:Int)else 0)=1 then D++[Dg.mk 2408 p (.f [])]else D)=D1 at *
  induction wb
  .rw[if_neg aO];exact go a
  .rw[if_pos rfl];exact fW (beq_eq_false_iff_ne.mpr hs) (ZT (by exact fh ja br [.b (.a jb iH) cC,.a ja (.a jb aU)] rfl hD hl) (by exact fJ ja br [.b (.a ja aU) cC] rfl hN) (go _))

variable{cZ:S3}
theorem QO{nd row a:S7}(hw:w∈cK)(hs:s∈4::eT)(hp:pm[27]?=some (.a cZ))(hF:F.length<90000)
  (go:k (.f [.j (if wb=true/\en=true/\s≠4/\free w=false/\l7 w (if cZ.length=0 then 0 else 1)≠0 then F++[t2 (l7 w (if cZ.length=0 then 0 else 1)) 7]else F),.j M]) ⟨pm,rg,ni⟩):
  ay (jw [] (n+1)) (Af.d.I 4) (xZ w s wb en nd row a) (u9 pm F M rg ni) (eF k):=by
 have e:cK.map (λw=>(4::eT).map λs=>B2.map λwb=>B2.map λen=>ay (jw [] (n+1)) (Af.d.I 4) (xZ w s wb en nd row a) (u9 pm F M rg ni) (eF k))=cK.map λw=>(4::eT).map λs=>B2.map λwb=>B2.map λen=>if wb=true/\en=true/\s≠4/\free w=false then(if w=2 then ap F (t2 2534 7) λF=>k (.f [.j F,.j M]) ⟨pm,rg,ni⟩else ob (pm[27]?.bind ah.J) λvs=>tb (some ((vs.length:Int)==0)) (if rL 4 w then k (.f [.j F,.j M]) ⟨pm,rg,ni⟩else ap F (t2 2366 7) λF=>k (.f [.j F,.j M]) ⟨pm,rg,ni⟩) (ap F (t2 2355 7) λF=>k (.f [.j F,.j M]) ⟨pm,rg,ni⟩))else k (.f [.j F,.j M]) ⟨pm,rg,ni⟩:=by kernel_rfl
 have e2:=b2 (QG (f:=λw s=>B2.map λwb=>B2.map λen=>ay (jw [] (n+1)) (Af.d.I 4) (xZ w s wb en nd row a) (u9 pm F M rg ni) (eF k)) e hw hs) wb en
 rw[e2,hp];by_cases hc:wb=true/\en=true/\s≠4/\free w=false
 .rw[if_pos hc];have Fv:∀x,l7 w (if cZ.length=0 then 0 else 1)=x->k (.f [.j (if x≠0 then F++[t2 x 7]else F),.j M]) ⟨pm,rg,ni⟩:=λx hx=>by
   rw[hx]at go
   by_cases h0:x≠0
   .rw[if_pos ⟨hc.1,hc.2.1,hc.2.2.1,hc.2.2.2,h0⟩]at go;rw[if_pos h0];exact go
   .rw[if_neg λh=>h0 h.2.2.2.2]at go;rw[if_neg h0];exact go
  unfold l7 at Fv
  by_cases h2:w=2
  .rw[if_pos h2]at Fv⊢
   exact Ca (by exact fJ ja aX [.b ja br] rfl hF) (Fv _ rfl)
  .rw[if_neg h2]at Fv⊢
   show tb (some ((cZ.length:Int)==0)) _ _;by_cases h0:cZ.length=0
   .rw[if_pos h0,if_pos rfl]at Fv
    exact kL (by rw[h0];rfl) (Ca (by exact fJ ja aX [.b ja br] rfl hF) (Fv _ rfl))
   .rw[if_neg h0,if_neg (by decide)]at Fv
    refine fW (beq_eq_false_iff_ne.mpr λe=>h0 (za.mp e)) ?_
    by_cases hg:rL 4 w=true
    .rw[if_pos hg]at Fv⊢;exact Fv _ rfl
    .rw[if_neg hg]at Fv⊢;exact Ca (by exact fJ ja aX [.b ja br] rfl hF) (Fv _ rfl)
 .rw[if_neg hc];rw[if_neg λh=>hc ⟨h.1,h.2.1,h.2.2.1,h.2.2.2.1⟩]at go
  exact go

theorem QS(hw:w∈cK)(go:ob ((pm[27]?.bind ah.J).map λJ=>It.b (.a (.e 27))) λi=>forLoop (.inr [8,9]) i (ay (jw [] (n+1)) Xl) (iC i (u9 pm [] [] rg ni)+1) 0 (xZ w s wb en none none none) (u9 pm [] [] rg ni) λfl loc s=>fb fl (ay (jw [] (n+1)) (Af.d.I 4) loc s (eF k)) (eF k fl loc s)):
  av (n+2) 88 [.a (.e 27),.a (iX w),.a (.d s),.a (.g wb),.a (.g en)] ⟨pm,rg,ni⟩ k:=by
 have e:cK.map (λw=>ay (jw [] (n+1)) Af.d [some (.a (.e 27)),some (.a (iX w)),some (.a (.d s)),some (.a (.g wb)),some (.a (.g en)),none,none,none,none,none,none] ⟨pm,[]::rg,ni⟩ (eF k))=cK.map λw=>ob ((pm[27]?.bind ah.J).map λJ=>It.b (.a (.e 27))) λi=>forLoop (.inr [8,9]) i (ay (jw [] (n+1)) Xl) (iC i (u9 pm [] [] rg ni)+1) 0 (xZ w s wb en none none none) (u9 pm [] [] rg ni) λfl loc s=>fb fl (ay (jw [] (n+1)) (Af.d.I 4) loc s (eF k)) (eF k fl loc s):=by kernel_rfl
 have e2:=fN e hw;refine fP [] ?_;show(Yw (jw [] (n+1))).1 [some (.a (.e 27)),some (.a (iX w)),some (.a (.d s)),some (.a (.g wb)),some (.a (.g en)),none,none,none,none,none,none] ⟨pm,[]::rg,ni⟩ (eF k);rw[<-(Yw (jw [] (n+1))).2,e2];exact go

theorem FJ{o:aal}:(z.I w wr st p o).D.length<=z.D.length+2/\(z.I w wr st p o).N.length<=z.N.length+1:=by
 have key:∀{z:Rz}{at_ v:Int},(z.J at_ v w).D.length<=z.D.length+1/\(z.J at_ v w).N.length<=z.N.length+1:=⟨wc,BE⟩
 induction o with
 |none=>
  show(if wr=1/\3∉uG w then z.J p 4 w else z).D.length<=_/\(if wr=1/\3∉uG w then z.J p 4 w else z).N.length<=_
  split
  .exact⟨dQ key.1,key.2⟩
  .exact⟨cB ..,bL _⟩
 |some v=>
  have h1:∀z':Rz,z'=(if st=1 then {z with D:=z.D++[⟨2408,p,.f []⟩]}else z)->z'.D.length<=z.D.length+1/\z'.N.length=z.N.length:=λz' e=>by
   subst e;split
   .exact⟨bZ aa,rfl⟩
   .exact⟨bL _,rfl⟩
  have h2:=h1 _ rfl;show(if wr=1 then(if st=1 then {z with D:=z.D++[⟨2408,p,.f []⟩]}else z).J (p+1) v w else if st=1 then {z with D:=z.D++[⟨2408,p,.f []⟩]}else z).D.length<=_/\(if wr=1 then(if st=1 then {z with D:=z.D++[⟨2408,p,.f []⟩]}else z).J (p+1) v w else if st=1 then {z with D:=z.D++[⟨2408,p,.f []⟩]}else z).N.length<=_
  generalize (if st=1 then {z with D:=z.D++[⟨2408,p,.f []⟩]}else z)=z' at *
  split
  .exact⟨aA key.1 (cA h2.1),h2.2▸key.2⟩
  .exact⟨dQ h2.1,by rw[h2.2];exact bL _⟩

theorem Mq(hv:∀r∈rs,∀x,r.v=some x->kd x.2∈i9)(hw:w∈cK)(hs:s∈eT)(Xr:st=if s=5 then 1 else 0)(YS:wr=if wb then 1 else 0)(h5:s=5->wb=false)(hl:rs.length<30000)(hp:pm[27]?=some (.a (rs.map (jS kd))))
  (go:k (.f [.j ((qg w wr (if rs.length=0 then 0 else 1) en (j6 kd w wr st ⟨X,[],[]⟩ rs).D).map sZ),.j (j6 kd w wr st ⟨X,[],[]⟩ rs).N]) ⟨pm,rg,ni⟩):
  av (n+2) 88 [.a (.e 27),.a (iX w),.a (.d s),.a (.g wb),.a (.g en)] ⟨pm,rg,ni⟩ k:=by
 have hs4:s≠4:=(by decide:∀s∈eT,s≠4) s hs
 refine QS hw ?_;refine cG (o:=(pm[27]?.bind ah.J).map λJ=>It.b (.a (.e 27))) (a:=.b (.a (.e 27))) (by rw[hp];rfl) ?_
 have el:iC (.b (.a (.e 27))) (u9 pm [] [] rg ni)=rs.length:=by show(((pm[27]?).bind ah.J).getD []).length=_;rw[hp];exact ao ..
 rw[el];refine k8 (⟨λa z=>xZ w s wb en a.1 a.2.1 a.2.2,λz=>u9 pm (z.D.map sZ) z.N rg ni,λm z=>z.D.length+2*m<70000/\z.N.length+m<70000⟩:Fo (S7×S7×S7) Rz) (λz r=>z.I w wr st r.p (r.v.map λx=>kd x.2)) (f:=jS kd) (vs:=rs) (x:=⟨X,[],[]⟩) (a:=(none,none,none)) (λz j=>by show((pm[27]?).bind ah.J).map _=_;rw[hp];rfl) rfl ⟨by show 0+2*_<_;exact fJ (.a fU (.m 2 ja)) lY [.s 2 (.b ja (.n 30000))] rfl hl,by show 0+_<_;exact fJ (.a fU ja) lY [.b ja (.n 30000)] rfl hl⟩ (λhP a=>?_) λm a z r hr hz=>⟨?_,λq hq=>?_⟩
 .refine QO (s:=s) hw (af _ hs) hp (by rw[ao];exact uK hP.1 (by decide)) ?_
  have e:((qg w wr (if rs.length=0 then 0 else 1) en (j6 kd w wr st ⟨X,[],[]⟩ rs).D).map sZ)=if wb=true/\en=true/\s≠4/\free w=false/\l7 w (if(rs.map (jS kd)).length=0 then 0 else 1)≠0 then(j6 kd w wr st ⟨X,[],[]⟩ rs).D.map sZ++[t2 (l7 w (if(rs.map (jS kd)).length=0 then 0 else 1)) 7]else(j6 kd w wr st ⟨X,[],[]⟩ rs).D.map sZ:=by
   rw[ao];unfold qg;have hc:(wr=1)↔wb=true:=by rw[YS];induction wb<;>decide
   generalize (if rs.length=0 then(0:Int)else 1)=vd
   by_cases h:wr=1/\free w=false/\en=true/\l7 w vd≠0
   .rw[if_pos h,if_pos ⟨hc.mp h.1,h.2.2.1,hs4,h.2.1,h.2.2.2⟩,aD];rfl
   .rw[if_neg h,if_neg λh2=>h ⟨hc.mpr h2.1,h2.2.2.2.1,h2.2.1,h2.2.2.2.2⟩]
  rw[e]at go
  exact go
 .have L:=FJ (z:=z) (w:=w) (wr:=wr) (st:=st) (p:=r.p) (o:=r.v.map λx=>kd x.2)
  obtain⟨h1,h2⟩:=hz;exact⟨by exact lS (.a ja (.m 2 jb)) lY [.a ja (.a jc iH),.b (.a jc (.m 2 (.a jb aU))) lY] rfl L.1 h1,by exact lS (.a ja jb) lY [.a ja (.a jc aU),.b (.a jc (.a jb aU)) lY] rfl L.2 h2⟩
 .obtain⟨h1,h2⟩:=hz;exact VE (nd:=none) (row:=none) (hv r hr) hw hs4 Xr YS h5 (by exact fh (.a ja iH) cC [.b (.a ja (.m 2 (.a jb aU))) lY] rfl h1) (by exact fh (.a ja aU) cC [.b (.a ja (.a jb aU)) lY] rfl h2) λa=>hq (some (.a r.I.I),some (.a _),a)

variable{S:St}{ts:S1}{bl:Bool}
theorem uX{j:Int}:jK (.d j) (ts.map .d)=some (decide (j∈ts)):=by
 have h1:(ts.map PV.d).all isInt=true:=by rw[List.all_map];exact aJ.mpr λJ J=>rfl
 have h2:((ts.map PV.d).any λv=>rN v (.d j)==some true)=decide (j∈ts):=by
  rw[List.any_map,gW,decide_eq_true_iff,cI];constructor
  .rintro ⟨x,hx,e⟩;have:(some (x==j)==some true)=true:=e;induction hxj:x==j
   .rw[hxj]at this;exact ft this
   .exact eq_of_beq hxj▸hx
  .exactλhj=>⟨j,hj,by show(some (j==j)==some true)=true;rw[beq_self_eq_true];rfl⟩
 unfold jK;rw[h1,h2];rfl
theorem fI(a:Nat): -(a:Int)-1=Int.negSucc a:=by induction a<;>rfl
theorem JT(a b:Nat):Builtin.bitOr (a:Int) (b:Int)=((a|||b:Nat):Int):=by
 unfold Builtin.bitOr Builtin.bitAnd Builtin.bitNot;rw[fI a,fI b];have g:∀a:Nat,-Int.negSucc a-1=a:=λa=>Int.add_sub_cancel (a:Int) 1
 show-(-(((-Int.negSucc a-1).toNat|||(-Int.negSucc b-1).toNat:Nat):Int)-1)-1=_;rw[g,g,fI,g];rfl
theorem Rw(a b:Nat):Builtin.bitAnd (a:Int) (b:Int)=((a&&&b:Nat):Int):=by
 unfold Builtin.bitAnd;have h1:decide (0<=(a:Int))=true:=by rw[decide_eq_true_eq];exact bC _
 have h2:decide (0<=(b:Int))=true:=by rw[decide_eq_true_eq];exact bC _
 simp only[h1,h2];simp
def Oa(t:Nat)(ts:S1):Nat:=ts.foldl (λa v=>a|||mN v) t
theorem zB:∀{ts:S1}{t:Nat},(Oa t ts).testBit i=(t.testBit i||ts.any λv=>(mN v).testBit i)
 |[],t=>(d7 _).symm
 |v::ts,t=>by show(Oa (t|||mN v) ts).testBit i=_;rw[zB,Nat.testBit_or,Bool.or_assoc];rfl
theorem QD(hT:∀t∈T,t∈jy){t:Nat}(e:∀i,(t.testBit i||ts.any λv=>(mN v).testBit i)=T.any λv=>(mN v).testBit i):Oa t ts=mJ mN (iW T) rV:=by
 apply Nat.eq_of_testBit_eq;intro i;rw[zB,e,zC,gW,cI,cI];constructor
 .rintro ⟨v,h1,h2⟩;have hv:v∈rV:=by
   rcases(by decide:∀v∈jy,v∈rV\/v=2) v (hT v h1)with h|h
   .exact h
   .subst h;rw[show mN 2=0 from rfl,nH]at h2
    exact ft h2
  exact⟨v,hv,by rw[show iW T v=_ from xE v,decide_eq_true hv,decide_eq_true h1];exact h2⟩
 .rintro ⟨v,h1,h2⟩;rw[show iW T v=_ from xE v,decide_eq_true h1,sd,bg,decide_eq_true_iff]at h2
  exact⟨v,h2.1,h2.2⟩
noncomputable abbrev Ys:S8:=[(.d 4,.d 28),(.d 8,.d 28),(.d 32,.d 96),(.d 128,.d 384),(.d 256,.d 384)]
theorem PR(t:Nat):bA (.d t) Ys=if t∈[4,8,32,128,256]then some (.d (vo t))else none:=by
 by_cases h:t∈[4,8,32,128,256]
 .rw[if_pos h];have e:[4,8,32,128,256].map (λt:Nat=>bA (.d t) Ys)=[4,8,32,128,256].map λt:Nat=>some (.d (vo t)):=by kernel_rfl
  exact bV.mp e t h
 .rw[if_neg h];have key:∀a:Nat,a∈[4,8,32,128,256]->∀v,fB (.d t) (.d a,v)=false:=λa ha v=>by rw[dg];intro hk;have:=PV.d.inj (pN hk);exact h ((r9 this)▸ha)
  unfold bA;rw[bK,show fB (.d t) (.d 4,.d 28)=false from key 4 (by decide) _,bK,show fB (.d t) (.d 8,.d 28)=false from key 8 (by decide) _,bK,show fB (.d t) (.d 32,.d 96)=false from key 32 (by decide) _,bK,show fB (.d t) (.d 128,.d 384)=false from key 128 (by decide) _,bK,show fB (.d t) (.d 256,.d 384)=false from key 256 (by decide) _];rfl
theorem KQ{t:Nat}(h:t∉[4,8,32,128,256]):vo t=t:=by
 simp only[aF,gm,or_false,not_or]at h
 unfold vo;rw[if_neg λe=>e.elim h.1 h.2.1,if_neg h.2.2.1,if_neg λe=>e.elim h.2.2.2.1 h.2.2.2.2]
def Tp(v:Int):Bool:=decide (0<mN v)&&decide (Y6 v=0)
abbrev W9(ts:S1)(bl:Bool)(h:Int)(t:Int)(a5 a6 a7 a8:S7):dj:=[some (.a (.j (ts.map dz))),some (.a (.g bl)),some (.a (t2 h (fR h))),some (.a (.j (ts.map .d))),some (.a (.d t)),a5,a6,a7,a8,none,none,none,none,none,none]

noncomputable def xX(ts:S1)(bl:Bool):S1:=ts++if bl then[4]else[]
theorem LQ(hv:∀t∈ts,t∈jy)(go:k (t2 (-1) (oF (iW (xX ts bl)) (fR h))) ⟨pm,rg,ni⟩){P:S1}(hP:P=ts.filter Tp){K:PV->Prop}(hK:∀t:Int,k (t2 (-1) t) ⟨pm,rg,ni⟩->K (.d t)){t:Nat}(ht:t=Oa (if bl then 1 else 0) ts):
  tb (some (bA (.d t) Ys).isSome) (K (.d t)) (tb (some (decide (((P.map PV.d).length:Int)=0))) (K (.d t)) (tb (some (Builtin.bitAnd t (fR h)==0)) (K (.d t)) (ob (bA (.d t) Ys) λv=>K v))):=by
 have hT:∀x∈xX ts bl,x∈jy:=λx hx=>(aS.mp hx).elim (hv x) λhx=>by
  induction bl
  .exact nomatch hx
  .rw[aB.mp hx];decide
 have e0:mJ mN (iW (xX ts bl)) rV=t:=by
  rw[ht];refine(QD hT λi=>?_).symm
  unfold xX;rw[gV];induction bl
  .rw[if_neg aO,if_neg aO,nH];exact(d7 _).symm
  .rw[if_pos rfl,if_pos rfl,Bool.or_comm];exact congrArg (_|| ·) (d7 _).symm
 have pf:∀v∈ts,Tp v=decide (v∈[20,6,7,12,3,4,5,24]):=λv h=>(by decide:∀v∈jy,Tp v=decide (v∈[20,6,7,12,3,4,5,24])) v (hv v h)
 have pl:k7 (iW (xX ts bl))=true↔bl=true\/P≠[]:=by
  unfold k7;rw[cI];constructor
  .rintro ⟨y,h1,h2⟩;rw[show iW (xX ts bl) y=_ from xE y,bg,decide_eq_true_iff,decide_eq_true_iff]at h2
   rcases aS.mp h2.2 with h|h
   .right;intro e;have:y∈P:=hP▸cR.mpr ⟨h,by rw[pf y h];exact decide_eq_true h1⟩
    rw[e]at this;exact nomatch this
   .left;induction bl
    .exact nomatch h
    .rfl
  .intro h;have:∃y∈[20,6,7,12,3,4,5,24],y∈xX ts bl:=by
    rcases h with h|h
    .exact⟨4,by decide,bw _ (by rw[h];exact aj)⟩
    .obtain⟨y,hy⟩:=List.exists_mem_of_ne_nil _ h;rw[hP,cR]at hy
     rw[pf y hy.1,decide_eq_true_iff]at hy
     exact⟨y,hy.2,b9 _ hy.1⟩
   obtain⟨y,h1,h2⟩:=this;exact⟨y,h1,by rw[show iW (xX ts bl) y=_ from xE y,decide_eq_true h2,decide_eq_true ((by decide:∀y∈[20,6,7,12,3,4,5,24],y∈rV) y h1)];rfl⟩
 unfold oF TV at go
 rw[e0]at go
 rw[PR];by_cases hL:t∈[4,8,32,128,256]
 .rw[if_pos hL];have nb:bl=false:=by
   induction hb:bl
   .rfl
   .exfalso
    have:t.testBit 0=true:=by rw[ht,zB,hb];rfl
    exact absurd this ((by decide:∀t∈[4,8,32,128,256],¬(Nat.testBit t 0=true)) t hL)
  refine kL rfl ?_;by_cases hp:P=[]
  .refine kL (decide_eq_true (by rw[hp];rfl)) ?_
   have np:k7 (iW (xX ts bl))=false:=dg.mpr λh=>(pl.mp h).elim (λh=>by rw[nb]at h;exact ft h) λh=>h hp
   rw[np]at go
   refine nu (p:=t&&&fR h=0) (by rw[Rw,beq_iff_eq];exact za) (λh2=>?_) λh2=>?_
   .rw[if_neg (by rw[bg,decide_eq_true_iff];exactλh=>h2 h.2)]at go
    exact hK _ go
   .rw[if_pos (by rw[bg,decide_eq_true_iff];exact⟨rfl,h2⟩)]at go
    exact hK _ go
  .have rm:k7 (iW (xX ts bl))=true:=pl.mpr (.inr hp);rw[rm]at go
   refine fW (decide_eq_false λh=>hp (List.eq_nil_of_length_eq_zero ((ao (as:=P) PV.d).symm.trans (r9 h)))) ?_
   exact hK _ go
 .rw[if_neg hL];refine fW rfl (hK _ ?_);rw[KQ hL,ite_self]at go
  exact go

theorem Te{α:Type}{tgt:Nat ⊕ S5}{it:It}{cQ gF:EV}{loc:dj}{k:S3->St->Prop}{f g:α->PV}{vs:List α}(p:α->Bool)(tZ:∀j,mw it j S=some (vs.map f)[j]?)(hm:m=vs.length)(K:k ((vs.filter p).map g) S)(hb:∀v,v∈vs->∀q:S3->St->Prop,q (if p v then[g v]else[]) S->eU tgt (.a (f v)) loc λloc=>cQ loc S λt s=>tb (dB s t) (q [] s) (gF loc s λy s=>pb y λy=>q [y] s)):compLoop tgt it cQ gF loc (m+1) 0 [] S k:=by
 refine zK (σ:=Unit) ⟨λJ=>S,λJ=>True⟩ (λJ J=>()) (λJ v=>if p v then[g v]else[]) (λJ=>tZ) hm (x:=()) trivial (λJ=>?_) λJ v hv J=>⟨trivial,hb v hv⟩
 have:∀vs:List α,zR (λ(_:Unit) _=>()) (λJ v=>if p v then[g v]else[]) () vs=(vs.filter p).map g:=λvs=>by
  induction vs with
  |nil=>rfl
  |cons v r ih=>
   show(if p v then[g v]else[])++zR _ _ () r=_
   rw[ih,List.filter_cons]
   induction p v<;>rfl
 rw[this];exact K
theorem Go{p1 p2 p3:Bool}{E T T' A B:Prop}(hT:T->T')(H:tb (some p1) E (tb (some p2) E (tb (some p3) E T))):tb (some p1) (tb (some p1) E A) (tb (some p2) (tb (some p2) E B) (tb (some p3) E T')):=by
 induction p1
 .exact H
 .induction p2
  .exact H
  .induction p3
   .exact H
   .exact hT H
theorem CY(hT:∀t∈ts,t∈i9)(hl:ts.length<50000)(go:k (if 0∈ts then t2 0 4095 else if 1∈ts then t2 1 4095 else t2 (-1) (oF (iW (xX ts bl)) (fR h))) ⟨pm,rg,ni⟩):
  av (n+2) 86 [.a (.j (ts.map dz)),.a (.g bl),.a (t2 h (fR h))] ⟨pm,rg,ni⟩ k:=by
 have len:(ts.map dz).length<=100000:=by rw[ao];exact kQ ja aX [.b ja aI] rfl hl
 refine in_w ?_;refine dP (p:=(ts.map dz).length<=100000) len ?_;refine yV (f:=dz) (g:=PV.d) (vs:=ts) (S:=⟨pm,[]::rg,ni⟩) (λJ=>rfl) (ao ..) ?_ λv J q hq=>hq
 refine cG (o:=jK (.d 0) (ts.map .d)) uX ?_;by_cases h0:0∈ts
 .rw[if_pos h0]at go
  exact kL (decide_eq_true h0) (kL (decide_eq_true h0) (cG (o:=jK (.d 0) (ts.map .d)) uX (kL (decide_eq_true h0) go)))
 .rw[if_neg h0]at go
  refine fW (decide_eq_false h0) ?_;refine cG (o:=jK (.d 1) (ts.map .d)) uX ?_;by_cases h1:1∈ts
  .rw[if_pos h1]at go
   exact kL (decide_eq_true h1) (cG (o:=jK (.d 0) (ts.map .d)) uX (fW (decide_eq_false h0) go))
  .rw[if_neg h1]at go
   refine fW (decide_eq_false h1) ?_;have hv:∀t∈ts,t∈jy:=λt ht=>by
    rcases aF.mp (hT t ht)with rfl|h
    .exact absurd ht h0
    .rcases aF.mp h with rfl|h
     .exact absurd ht h1
     .exact h
   have zQ:∀t0:Nat,t0=(if bl then 1 else 0)->forLoop (.inr [5,6,7]) (.a (ts.map dz)) (bU (TU 4 .d (bx 6)) eG) ((ts.map dz).length+1) 0 (W9 ts bl h t0 none none none none) ⟨pm,[]::rg,ni⟩ λfl loc s=>fb fl (ay (av (n+1)) (I7.d.I 4) loc s (eF k)) (eF k fl loc s):=λt0 e0=>by
    refine k8 (⟨λa t=>W9 ts bl h (t:Nat) a.1 a.2.1 a.2.2 none,λJ=>⟨pm,[]::rg,ni⟩,λJ J=>True⟩:Fo (S7×S7×S7) Nat) (λt v=>t|||mN v) (f:=dz) (vs:=ts) (x:=t0) (a:=(none,none,none)) (λJ J=>rfl) (ao ..) trivial (λJ a=>?_) λm a t v hm J=>⟨trivial,λq hq=>?_⟩
    .show ay (av (n+1)) (I7.d.I 4) (W9 ts bl h ((Oa t0 ts:Nat):Int) a.1 a.2.1 a.2.2 none) ⟨pm,[]::rg,ni⟩ (eF k);refine dP (p:=(ts.map dz).length<=100000) len ?_;refine Te (f:=dz) (g:=PV.d) Tp (vs:=ts) (S:=⟨pm,[]::rg,ni⟩) (λJ=>rfl) (ao ..) ?_ λv hm q hq=>?_
     .have hK:∀t:Int,k (t2 (-1) t) ⟨pm,rg,ni⟩->(λv=>k (.f [.d (-1),v]) ⟨pm,rg,ni⟩) (.d t):=λJ h=>h
      have E:=LQ (P:=ts.filter Tp) (K:=λv=>k (.f [.d (-1),v]) ⟨pm,rg,ni⟩) hv go rfl hK (t:=Oa t0 ts) (by rw[e0])
      refine in_w ?_;refine Go (λh=>?_) E
      exact in_w h
     .have e:jy.map (λv=>eU (.inr [12,13,14]) (.a (dz v)) (gQ (.inr [12,13,14]) (W9 ts bl h ((Oa t0 ts:Nat):Int) a.1 a.2.1 a.2.2 none)) λloc=>(B6 (jG .d (bx 13) (bN (.d 0))) (jG .a (bx 14) (bN (.d 0)))) loc ⟨pm,[]::rg,ni⟩ λt s=>tb (dB s t) (q [] s) ((bx 12) loc s λy s=>pb y λy=>q [y] s))=jy.map λv=>q (if Tp v then[.d v]else[]) ⟨pm,[]::rg,ni⟩:=by kernel_rfl
      have e2:=fN e (hv v hm);exact e2.symm▸hq
    .have:=hq (some (.a (.d v)),some (.a (.d (mA v))),some (.a (.d (Y6 v))));have e:mA v=mN v:=(by decide:∀v∈jy,mA v=mN v) v (hv v hm)
     have e2:Builtin.bitOr (t:Nat) (mA v:Nat)=((t|||mN v:Nat):Int):=by rw[e];exact JT ..
     show q .a (W9 ts bl h (Builtin.bitOr (t:Nat) (mA v:Nat)) (some (.a (.d v))) (some (.a (.d (mA v)))) (some (.a (.d (Y6 v)))) none) ⟨pm,[]::rg,ni⟩;rw[e2];exact this
   induction bl
   .exact zQ 0 rfl
   .exact zQ 1 rfl

variable{y b':Int}
noncomputable def qw(b:Bool)(c0 c1:ah):V6:=if b then[c0,c1]else[c0]
noncomputable def N6:S8:=[(.d 6,.d 28),(.d 18,.d 4),(.d 20,.d 8),(.d 7,.d 96),(.d 16,.d 32),(.d 9,.d 256),(.d 8,.d 128)]
def z7:S8:=N6++[(.d 4,.d 1),(.d 5,.d 2),(.d 3,.d 512),(.d 2,.d 0)]
noncomputable abbrev xW(b:Bool):Nat:=if b then 29 else 28
noncomputable def kr(f:Fc)(l:V6):Fc:= {f with g:=l}
abbrev Yv(b:Bool):dj:=[some (.a (.e 1)),some (.a (.d 16)),some (.a (.e (xW b))),none,none]
def Id:nP:=(t8.d.I 2).J.I
theorem U9{R:XV}{k:KX}(go:R (Yv b) (S4 d X (kr f (qw b c0 c1++[.e false N6])).I ([]::rg) ni) k):bU (bf (av (n+2)) t8.d.J) (bU (bf (av (n+2)) (t8.d.I 1).J) R) [some (.a (.e 1)),none,none,none,none] (S4 d X (kr f (qw b c0 c1)).I ([]::rg) ni) k:=by rw[cO];revert b go;exact @kB _ _ (by kernel_rfl)
abbrev d4(v:PV):S3:=[t2 4 1,t2 5 2,t2 3 512,t2 2 0,.f [v,.d 1024]]
noncomputable def MS.J:MS->PK
 |.k _ i _=>i
 |_=>.b .L
def H5(n:Nat)(b:Bool)(k:KP)(v:PV)(s:St):Prop:=forLoop (.inr [3,4]) (.a (d4 v)) (ay (av n) Id) (iC (.a (d4 v)) s+1) 0 (Yv b) s λfl loc s=>fb fl (ay (av n) (t8.d.I 3) loc s (eF k)) (eF k fl loc s)
theorem Qt{K:It->St->Prop}(go:av n 8 [.a (.e 1),.a gh] (S4 d X (kr f (qw b c0 c1++[.e false N6])).I ([]::rg) ni) λv s=>K (.a (d4 v)) s):bh (av n) (t8.d.I 2).J.J (Yv b) (S4 d X (kr f (qw b c0 c1++[.e false N6])).I ([]::rg) ni) K:=by rw[<-CX (l:=[8])];revert b go;exact @kB _ _ (by kernel_rfl)
theorem d78{cl:CL}:ay cl (t8.d.I 2)=bU (BU (.inr [3,4]) (bh cl (t8.d.I 2).J.J) (ay cl Id)) (ay cl (t8.d.I 3)):=rfl
theorem Fh{cl:CL}:ay cl t8.d=bU (bf cl t8.d.J) (bU (bf cl (t8.d.I 1).J) (ay cl (t8.d.I 2))):=rfl
theorem VU{tgt:Nat ⊕ S5}{it:IV}{B R:XV}{loc:dj}{s:St}{k:KX}(go:it loc s λi s=>forLoop tgt i B (iC i s+1) 0 loc s λfl loc s=>fb fl (R loc s k) (k fl loc s)):bU (BU tgt it B) R loc s k:=go
theorem U8(go:av n 8 [.a (.e 1),.a gh] (S4 d X (kr f (qw b c0 c1++[.e false N6])).I ([]::rg) ni) (H5 n b k)):ay (av n) (t8.d.I 2) (Yv b) (S4 d X (kr f (qw b c0 c1++[.e false N6])).I ([]::rg) ni) (eF k):=by rw[d78];exact VU (Qt go)
theorem U7(go:k (.e (xW b)) (S4 d X (kr f (qw b c0 c1++[.e false (cY (.d v) (.d 1024) z7)])).I rg ni)):H5 n b k (.d v) (S4 d X (kr f (qw b c0 c1++[.e false N6])).I ([]::rg) ni):=by revert b go;exact @kB _ _ (by kernel_rfl)
theorem U6(hX:X.length<900)(go:k (.e (xW b)) (S4 d (cj X gh).2 (kr f (qw b c0 c1++[.e false (cY (.d (cj X gh).1) (.d 1024) z7)])).I rg ni)):
  av (n+3) 78 [.a (.e 1)] (S4 d X (kr f (qw b c0 c1)).I rg ni) k:=by
 refine in_w ?_;show(Yz (av (n+2))).1 [some (.a (.e 1)),none,none,none,none] (S4 d X (kr f (qw b c0 c1)).I ([]::rg) ni) (eF k);rw[<-(Yz (av (n+2))).2,Fh];refine U9 (U8 ?_);exact Az (row:=gh) (by kernel_rfl) hX (U7 go)
theorem Ho:((bA (.d y) (cY (.d b') (.d 1024) z7)).getD (.d 8192))=.d (mB b' y):=by
 unfold mB;by_cases e:y=b'
 .subst e;rw[if_pos rfl,jl];rfl
 .rw[if_neg e,kU e];by_cases h:y∈[(6:Int),18,20,7,16,9,8,4,5,3,2]
  .have e1:[(6:Int),18,20,7,16,9,8,4,5,3,2].map (λy=>(bA (.d y) z7).getD (.d 8192))=[(6:Int),18,20,7,16,9,8,4,5,3,2].map λy=>.d (sN y):=by kernel_rfl
   rw[fN e1 h,if_neg (λe=>by subst e;exact absurd h (by decide))]
  .have key:bA (.d y) z7=none:=by
    unfold bA;rw[List.find?_eq_none.mpr λx hx hk=>?_]
    .rfl
    .have h1:=pN hk;have e:z7=[(6:Int),18,20,7,16,9,8,4,5,3,2].map λy=>(PV.d y,PV.d (sN y)):=by kernel_rfl
     rw[e]at hx
     obtain⟨a,h3,h2⟩:=bF.mp hx;rw[<-h2]at h1
     exact h (PV.d.inj h1▸h3)
   rw[key];simp only[aF,gm,or_false,not_or]at h
   unfold sN;by_cases pS:y=24
   .rw[if_pos pS];rfl
   .rw[if_neg pS,if_neg pS]
    repeat first
     |rw[if_neg h.1]
     |replace h:=h.2
    rw[if_neg h];rfl

variable{lp:Bool}
abbrev SW(d:ah)(cZ:S3)(p:Int)(rg:V5)(ni:S1):St:=S4 d [] [.a cZ,.a [.d p,.e 4]] rg ni
abbrev IX(n:Nat):CL:=jw [76,81] n
noncomputable abbrev Yu(dp:Int)(lp:Bool)(v:S7):dj:=[some (.a (.e 0)),some (.a (.e 5)),some (.a (.d dp)),some (.a (.g lp)),v,none,none,none,none,none,none,none,none,none]
theorem GV(go:av n 76 [.a (.e 0),.a (.d 80)] (SW d cZ p ([]::rg) ni) λv s=>ay (IX n) (GF.d.I 1) (Yu dp lp (some (.a v))) s (eF k)):av (n+1) 82 [.a (.e 0),.a (.e 5),.a (.d dp),.a (.g lp)] (SW d cZ p rg ni) k:=by refine fP [76,81] ?_;show(Yx (IX n)).1 (Yu dp lp none) (SW d cZ p ([]::rg) ni) (eF k);rw[<-(Yx (IX n)).2];exact go
inductive Lf
 |a|b|d|f|e (w:V8)|g
noncomputable def AJ(x:Nat)(dp:Nat)(lp:Bool):Lf ⊕ Bool ⊕ V8:=
 let h:=x%10
 if h<2 then .inl .a else if h<3 then .inl .b else if h=3 then .inl .d else if h=9 then .inl .g else if h=8/\lp then .inl .f else
 if h<5\/h=8\/dp=0 then .inl (.e (if h=4 then(if x/10%3=0 then none else if x/10%3=1 then some true else some false)else none))else
 if h=7 then .inr (.inl (x/10%2 != 1))else .inr (.inr (if h=5 then none else if x/10%2=0 then some true else some false))

noncomputable abbrev nw(ni:S1):S1:=ni++[0]
def Lf.O(p:Int)(ni:S1):Lf->PV
 |.a=>lq (nw ni).length p (gO ni.length (p+1))
 |.b=>lq ni.length p .h
 |.d=>.l (nw ni).length [.d 56,eS,.j [.l ni.length [.d 8,.k "x",.j [],.d 0,.d (p+1)]],.d 0,.d p]
 |.f=>.l ni.length [.d 53,eS,.j [],.d 0,.d p]
 |.e w=>.l (nw (nw ni)).length [.d 43,eS,.j [.l (nw ni).length [.d 18,pW w,.j [.l ni.length [.d 8,.k "g",.j [],.d 0,.d p]],.d 0,.d p]],.d 0,.d p]
 |.g=>.l (nw (nw (nw (nw (nw ni))))).length [.d 43,eS,.j [.l (nw (nw (nw (nw ni)))).length [.d 27,eS,.j [.h,.l (nw (nw (nw ni))).length [.d 71,eS,.j [],.d 0,.d p],.h,.l (nw (nw ni)).length [.d 59,eS,.j [.l (nw ni).length [.d 52,eS,.j [.l ni.length [.d 1,.d 0,.j [],.d 0,.d p]],.d 0,.d p]],.d 0,.d p]],.d 4,.d p]],.d 0,.d p]
def Lf.V(ni:S1):Lf->S1
 |.a=>nw (nw ni)
 |.b=>nw ni
 |.d=>nw (nw ni)
 |.f=>nw ni
 |.e _=>nw (nw (nw ni))
 |.g=>nw (nw (nw (nw (nw (nw ni)))))
abbrev Yp(a:V8)(p:Int)(i:Nat):PV:=.l i [.d (qX a),.k "c",.j [],.d 0,.d p]
abbrev YG(cl:CL)(kd:Int)(ks:GJ)(p:Int):EV:=tE cl 74 (bO (bN (.d kd)) (bO (bN eS) (bO (sI false (tD ks)) (bO (bN (.d p)) d9))))
def apN(items:PV->PV)(v:PV)(nd:PV)(k:KP)(s:St):Prop:=rG (.a (.e 4)) (.a (items v)) s λs=>k nd (s.I List.tail)
def H2(n:Nat)(d:ah)(cZ:S3)(p:Int)(rg:V5)(ni:S1)(x dp:Nat)(lp:Bool)(k:KP):Lf ⊕ Bool ⊕ V8->Prop
 |.inl .a=>av n 76 [.a (.e 0),.a (.d 16)] (SW d cZ (p+2) ([]::rg) (Lf.V ni .a)) λv s=>apN (λv=>.f [Lf.O p ni .a,v]) v (Lf.O p ni .a) k s
 |.inl .b=>gb (decide (cZ.length<100000)) (k (Lf.O p ni .b) (SW d (cZ++[.f [Lf.O p ni .b,.d (-1)]]) (p+2) rg (nw ni)))
 |.inl l=>k (Lf.O p ni l) (SW d cZ (p+2) rg (Lf.V ni l))
 |.inr (.inl c)=>av n 81 [.a (.e 0),.a (.e 5),.a (.d ((dp:Int)-1)),.a (.g true),.a (.d 0)] (SW d cZ (p+2) ([]::rg) (nw ni)) λv s=>YG (IX n) 45 (bO (bN (Yp (wa c) p ni.length)) (bO (bN v) d9)) p [] s λr s=>pb r λr=>k r (s.I List.tail)
 |.inr (.inr a)=>av n 81 [.a (.e 0),.a (.e 5),.a (.d ((dp:Int)-1)),.a (.g lp),.a (.d 0)] (SW d cZ (p+2) ([]::rg) (nw ni)) λv s=>av n 81 [.a (.e 0),.a (.e 5),.a (.d ((dp:Int)-1)),.a (.g lp),.a (.d 0)] s λu s=>YG (IX n) 44 (bO (bN (Yp a p ni.length)) (bO (bN v) (bO (bN u) d9))) p [] s λr s=>pb r λr=>k r (s.I List.tail)
theorem FT{α β:Type}{f g:α->β}{l:List α}(h:l.map f=l.map g){x:α}(hx:x∈l):f x=g x:=bV.mp h x hx
theorem GW{x dp:Nat}(hx:x<80)(hd:dp<3)(go:H2 (n+2) d cZ p rg ni x dp lp k (AJ x dp lp)):ay (IX (n+2)) (GF.d.I 1) (Yu dp lp (some (.a (.d x)))) (SW d cZ p ([]::rg) ni) (eF k):=by
 have e:((List.range 80).map λ(x:Nat)=>(List.range 3).map λ(dp:Nat)=>B2.map λlp=>ay (IX (n+2)) (GF.d.I 1) (Yu dp lp (some (.a (.d x)))) (SW d cZ p ([]::rg) ni) (eF k))=(List.range 80).map λx=>(List.range 3).map λ(dp:Nat)=>B2.map λlp=>H2 (n+2) d cZ p rg ni x dp lp k (AJ x dp lp):=by kernel_rfl
 have e2:=fY (FT (FT e (cE.mpr hx)) (cE.mpr hd)) lp;rw[e2];exact go

variable{q kd:Int}{a v u:PV}{K:KV}
theorem yB(go:K (.a (.l ni.length [.d kd,eS,.j [a,v],.d 0,.d p])) (SW d cZ q ([]::rg) (nw ni))):YG (IX (n+2)) kd (bO (bN a) (bO (bN v) d9)) p [] (SW d cZ q ([]::rg) ni) K:=by revert go;exact @kO _ _ (by kernel_rfl)
theorem yA(go:K (.a (.l ni.length [.d kd,eS,.j [a,v,u],.d 0,.d p])) (SW d cZ q ([]::rg) (nw ni))):YG (IX (n+2)) kd (bO (bN a) (bO (bN v) (bO (bN u) d9))) p [] (SW d cZ q ([]::rg) ni) K:=by revert go;exact @kO _ _ (by kernel_rfl)
theorem Vw(go:k (.l ni.length [.d 59,eS,.j vs,.d 0,.d p]) (SW d cZ p rg (nw ni))):av (n+2) 74 [.a (.d 59),.a eS,.a (.j vs),.a (.d p)] (SW d cZ p rg ni) k:=by rw[cO];revert go;exact @kO _ _ (by kernel_rfl)
abbrev Tr.J(t:Tr):S5:=t.V.map Tr.c'
abbrev Ks.V(ks:Ks):S5:=ks.e'.map Tr.c'
structure kq(rj:S5)(rs:WG)(lo hi:Nat)(p q:Int):Prop where
 f:rj.Nodup
 c:∀i∈rj,lo<=i/\i<hi
 g:rs.length+lo<=hi
 j:p<=q
 k:rs.Pairwise λa b=>a.p+2<=b.p
 d:∀r∈rs,p<=r.p/\r.p+2<=q/\∀x,r.v=some x->x.2<16
theorem kq.I{rj:S5}{lo hi:Nat}(a:kq rj rs lo hi p q):lo<=hi:=aA (gU ..) a.g
theorem kq.c'{lo:Nat}:kq [] [] lo lo p p:=⟨qi,λJ h=>(nomatch h),by show 0+lo<=lo;exact kQ (.a fU ja) ja [] rfl,rA _,.nil,λJ h=>(nomatch h)⟩
theorem kq.V{is js:S5}{us:WG}{lo mi hi:Nat}{m:Int}(a:kq is rs lo mi p m)(b:kq js us mi hi m q):kq (is++js) (rs++us) lo hi p q:=
 ⟨List.nodup_append.mpr ⟨a.f,b.f,λx hx y hy e=>pF (aR (a.c x hx).2 (b.c y hy).1) e⟩,
  λi hi=>(aS.mp hi).elim (λh=>⟨(a.c i h).1,aR (a.c i h).2 b.I⟩) λh=>⟨aA a.I (b.c i h).1,(b.c i h).2⟩,
  by have t9:=a.g;have:=b.g;rw[aa];exact TG (.a (.a ja jb) jc) jd [.a (.a ja jc) je,.a (.a jb je) jd] rfl t9 this,i8 a.j b.j,
  List.pairwise_append.mpr ⟨a.k,b.k,λx hx y hy=>i8 (a.d x hx).2.1 (b.d y hy).1⟩,
  λr hr=>(aS.mp hr).elim (λh=>⟨(a.d r h).1,i8 (a.d r h).2.1 b.j,(a.d r h).2.2⟩) λh=>⟨i8 a.j (b.d r h).1,(b.d r h).2⟩⟩

variable{lo hi:Nat}{is:S5}
noncomputable def Lf.I(lo:Nat)(p:Int)(x:Nat):Lf->Sm
 |.a=>.D (lo+1) p (some (lo,x))
 |.b=>.D lo p none
 |.d=>.L (lo+1) lo p
 |.f=>.E lo p
 |.e w=>.C (lo+2) (lo+1) lo p w
 |.g=>.M (lo+5) (lo+4) (lo+3) (lo+2) (lo+1) lo p
noncomputable def Lf.c':Lf->Nat
 |.a=>2
 |.b=>1
 |.d=>2
 |.f=>1
 |.e _=>3
 |.g=>6
theorem jJ:(nw ni).length=ni.length+1:=aa
def Lf.e'(p:Int)(a0 a1 a2 a3 a4 a5:Nat):Lf->PV
 |.a=>lq a1 p (gO a0 (p+1))
 |.b=>lq a0 p .h
 |.d=>.l a1 [.d 56,eS,.j [.l a0 [.d 8,.k "x",.j [],.d 0,.d (p+1)]],.d 0,.d p]
 |.f=>.l a0 [.d 53,eS,.j [],.d 0,.d p]
 |.e w=>.l a2 [.d 43,eS,.j [.l a1 [.d 18,pW w,.j [.l a0 [.d 8,.k "g",.j [],.d 0,.d p]],.d 0,.d p]],.d 0,.d p]
 |.g=>.l a5 [.d 43,eS,.j [.l a4 [.d 27,eS,.j [.h,.l a3 [.d 71,eS,.j [],.d 0,.d p],.h,.l a2 [.d 59,eS,.j [.l a1 [.d 52,eS,.j [.l a0 [.d 1,.d 0,.j [],.d 0,.d p]],.d 0,.d p]],.d 0,.d p]],.d 4,.d p]],.d 0,.d p]
theorem Lf.d'{x:Nat}(l:Lf):l.O p ni=(l.I ni.length p x).I.I:=by
 have e1:l.O p ni=l.e' p ni.length (nw ni).length (nw (nw ni)).length (nw (nw (nw ni))).length (nw (nw (nw (nw ni)))).length (nw (nw (nw (nw (nw ni))))).length:=by induction l<;>rfl
 have e2:(l.I ni.length p x).I.I=l.e' p ni.length (ni.length+1) (ni.length+1+1) (ni.length+1+1+1) (ni.length+1+1+1+1) (ni.length+1+1+1+1+1):=by induction l<;>rfl
 rw[e1,e2];simp only[jJ]
theorem Lf.f'(l:Lf):(l.V ni).length=ni.length+l.c':=by induction l<;>simp only[Lf.V,jJ]<;>rfl
theorem Lf.g'{x:Nat}:∀l:Lf,(l.I lo p x).I.J=(List.range' lo l.c').reverse
 |.a=>rfl
 |.b=>rfl
 |.d=>rfl
 |.f=>rfl
 |.e w=>rfl
 |.g=>rfl
theorem Lf.i'{x:Nat}(hx:x<16)(l:Lf):kq (l.I lo p x).I.J (l.I lo p x).c' lo (lo+l.c') p (p+2):=by
 have hr:∀r∈(l.I lo p x).c',r.p=p/\∀y,r.v=some y->y.2<16:=by
  induction l
  .intro r hr;rw[aB.mp hr];exact⟨rfl,λy h=>aq h▸hx⟩
  .intro r hr;rw[aB.mp hr];exact⟨rfl,λy h=>nomatch h⟩
  all_goals exactλr hr=>nomatch hr
 refine⟨?_,λi hi=>?_,by induction l<;>(first|exact(by show 0+lo<=_;exact mK (.a fU ja) (.a ja jb) [] rfl)|exact(by show 1+lo<=lo+_;show 1+lo<=lo+2;exact kQ (.a aU ja) (.a ja iH) [] rfl)|exact(by show 1+lo<=lo+1;exact kQ (.a aU ja) (.a ja aU) [] rfl)),by exact I2 ja (.a ja iH) [] rfl,?_,λr h=>⟨by rw[(hr r h).1];exact rA _,by rw[(hr r h).1];exact rA _,(hr r h).2⟩⟩
 .rw[Lf.g'];exact(List.reverse_perm _).nodup_iff.mpr List.nodup_range'
 .rw[Lf.g',List.mem_reverse,dc]at hi
  exact hi
 .induction l<;>first|exact .cons (λJ h=>nomatch h) .nil|exact .nil
theorem kq.O(m:kq is rs (lo+1) hi (p+2) q):kq (hi::lo::is) rs lo (hi+1) p q:=
 ⟨cD.mpr ⟨λh=>by
   rcases aF.mp h with h|h
   .have:=m.I;exact YN [.f ja jb,.a (.a jb aU) ja] rfl h this
   .have:=(m.c hi h).2;exact YO [.b ja ja] rfl this,cD.mpr ⟨λh=>by have:=(m.c lo h).1;exact YO [.a (.a ja aU) ja] rfl this,m.f⟩⟩,
  λi h=>by
   rcases aF.mp h with rfl|h
   .exact⟨aA (bL _) m.I,bD _⟩
   .rcases aF.mp h with rfl|h
    .exact⟨aH _,gY (Nat.lt_of_succ_le m.I)⟩
    .exact⟨Nat.le_of_succ_le (m.c i h).1,gY (m.c i h).2⟩,
  by have:=m.g;exact pR (.a ja jb) (.a jc aU) [.a (.a ja (.a jb aU)) jc] rfl this,by have:=m.j;exact iq ja jb [.a (.a ja iH) jb] rfl this,m.k,λr h=>⟨by have:=(m.d r h).1;exact iq ja jb [.a (.a ja iH) jb] rfl this,(m.d r h).2⟩⟩

variable{vs:S1}{B B' dp:Nat}
def nN(r:Rt):PV:=.f [r.I.I,.d (match r.v with
 |some x=>(x.2:Nat)
 |none=> -1)]
def TP(vs:S1)(n dp:Nat)(lp:Bool)(B:Nat):Prop:=∀(c:Nat)(cZ:S3)(p:Int)(ni:S1)(rg:V5)(k:KP),cZ.length+B<90000->
 (∀(m:Sm)(c':Nat)(q:Int)(jR:S1),kq m.I.J m.c' ni.length jR.length p q->jR.length<=ni.length+B->m.d'<=2*dp+1->k m.I.I (SW (dC c' vs) (cZ++m.c'.map nN) q rg jR))->
 av n 82 [.a (.e 0),.a (.e 5),.a (.d dp),.a (.g lp)] (SW (dC c vs) cZ p rg ni) k
def XH(vs:S1)(n dp:Nat)(lp:Bool)(fS B:Nat):Prop:=∀(c:Nat)(cZ:S3)(p:Int)(ni:S1)(rg:V5)(k:KP),cZ.length+B<90000->
 (∀(m:Bk)(c':Nat)(q:Int)(jR:S1),kq m.I.J m.O ni.length jR.length p q->jR.length<=ni.length+B->m.d'<=2*dp+2->k m.I.I (SW (dC c' vs) (cZ++m.O.map nN) q rg jR))->
 av n 81 [.a (.e 0),.a (.e 5),.a (.d dp),.a (.g lp),.a (.d fS)] (SW (dC c vs) cZ p rg ni) k
theorem W1(h:dp≠0):((dp:Int)-1)=((dp-1:Nat):Int):=(Int.ofNat_sub (Nat.pos_of_ne_zero h)).symm
theorem WP(h:dp≠0)(hm:m<=2*(dp-1)+2):m+1<=2*dp+1:=by obtain⟨d,rfl⟩:=Nat.exists_eq_succ_of_ne_zero h;exact cA hm
theorem KA{x:Nat}:∃l,AJ x 0 lp=.inl l:=by
 unfold AJ;dsimp only;rw[if_pos (show x%10<5\/x%10=8\/0=0 from .inr (.inr rfl))]
 repeat' split
 all_goals exact⟨_,rfl⟩
theorem Lf.c6:∀l:Lf,l.c'<=6
 |.a=>(by decide:2<=6)
 |.b=>(by decide:1<=6)
 |.d=>(by decide:2<=6)
 |.f=>(by decide:1<=6)
 |.e _=>(by decide:3<=6)
 |.g=>(by decide:6<=6)
theorem LS{l:Lf}{x:Nat}:(l.I lo p x).d'=1:=by induction l<;>rfl
theorem CK(hl:vs.length<1000)(hd:dp<3)(h6:6<=B)(hB:2+2*B'<=B)(hb:dp≠0->∀lp',XH vs (n+2) (dp-1) lp' 0 B'):TP vs (n+3) dp lp B:=by
 intro c cZ p ni rg k hi K;refine GV ?_;refine qk (p:=c) hl (by decide) λv h0 h80=>?_
 obtain⟨x,rfl⟩:=dm h0;refine GW (inl h80) hd ?_;have EH:∀(l:Lf)(y:Nat),y<16->∀{c':Nat},k (l.O p ni) (SW (dC c' vs) (cZ++(l.I ni.length p y).c'.map nN) (p+2) rg (l.V ni)):=λl y hy c'=>by
  have:=K (l.I ni.length p y) c' (p+2) (l.V ni) (by rw[Lf.f'];exact l.i' hy) (by rw[Lf.f'];exact bY (aA l.c6 h6) _) (by rw[LS];exact gU ..)
  rw[<-Lf.d']at this
  exact this
 rcases hc:AJ x dp lp with l|cc|a
 .induction l
  .refine qk (p:=c+1) hl (by decide) λv h0 h16=>?_
   obtain⟨y,rfl⟩:=dm h0;refine dP (p:=cZ.length<100000) (by exact fh ja aX [.b (.a ja jb) br] rfl hi) ?_
   have:=EH .a y (inl h16) (c':=c+1+1);rw[show(Lf.I ni.length p y .a).c'.map nN=[.f [Lf.O p ni .a,.d (y:Nat)]]by rw[Lf.d' (x:=y)];rfl]at this
   exact this
  .refine dP (p:=cZ.length<100000) (by exact fh ja aX [.b (.a ja jb) br] rfl hi) ?_
   have:=EH .b 0 (by decide) (c':=c+1)
   rw[show(Lf.I ni.length p 0 .b).c'.map nN=[.f [Lf.O p ni .b,.d (-1)]]by rw[Lf.d' (x:=0)];rfl]at this
   exact this
  .have:=EH .d 0 (by decide) (c':=c+1)
   rw[show cZ++(Lf.I ni.length p 0 .d).c'.map nN=cZ from az _]at this
   exact this
  .have:=EH .f 0 (by decide) (c':=c+1)
   rw[show cZ++(Lf.I ni.length p 0 .f).c'.map nN=cZ from az _]at this
   exact this
  .rename_i w;have:=EH (.e w) 0 (by decide) (c':=c+1)
   rw[show cZ++(Lf.I ni.length p 0 (.e w)).c'.map nN=cZ from az _]at this
   exact this
  .have:=EH .g 0 (by decide) (c':=c+1)
   rw[show cZ++(Lf.I ni.length p 0 .g).c'.map nN=cZ from az _]at this
   exact this
 .have h0:dp≠0:=λe=>by subst e;obtain⟨l,h⟩:=KA (x:=x) (lp:=lp);rw[h]at hc;contradiction
  show av (n+2) 81 [.a (.e 0),.a (.e 5),.a (.d ((dp:Int)-1)),.a (.g true),.a (.d 0)] _ _;rw[W1 h0];refine hb h0 true (c+1) cZ (p+2) (nw ni) ([]::rg) _ (by exact lS (.a ja jb) br [.a (.a iH (.m 2 jb)) jc,.b (.a ja jc) br] rfl hB hi) λm c' q jR M hl hm=>?_
  refine yB ?_;rw[jJ]at M hl
  have:=K (.B jR.length ni.length p cc m) c' q (nw jR) (by rw[jJ];exact(show(Sm.B jR.length ni.length p cc m).I.J=jR.length::ni.length::m.I.J by show _::_::(m.I.V++[]).map Tr.c'=_;rw[az];rfl)▸M.O) (by rw[jJ];exact ri (.a ja aU) (.a jb jc) [.a (.a iH (.m 2 jd)) jc,.a ja (.a (.a jb aU) jd)] rfl hB hl) (WP h0 hm)
  exact this
 .have h0:dp≠0:=λe=>by subst e;obtain⟨l,h⟩:=KA (x:=x) (lp:=lp);rw[h]at hc;contradiction
  show av (n+2) 81 [.a (.e 0),.a (.e 5),.a (.d ((dp:Int)-1)),.a (.g lp),.a (.d 0)] _ λv s=>av (n+2) 81 [.a (.e 0),.a (.e 5),.a (.d ((dp:Int)-1)),.a (.g lp),.a (.d 0)] s _
  rw[W1 h0];refine hb h0 lp (c+1) cZ (p+2) (nw ni) ([]::rg) _ (by exact lS (.a ja jb) br [.a (.a iH (.m 2 jb)) jc,.b (.a ja jc) br] rfl hB hi) λm c' q jR M hl hm=>?_
  rw[jJ]at M hl
  have lr:m.O.length<=B':=by have:=M.g;exact ri ja jb [.a jc (.a (.a jd aU) jb),.a (.a ja (.a jd aU)) jc] rfl hl this
  refine hb h0 lp c' (cZ++m.O.map nN) q jR ([]::rg) _ (by rw[aa,ao];exact Xp (.a (.a ja jb) jc) br [.a (.a iH (.m 2 jc)) jd,.b (.a ja jd) br,.a jb jc] rfl hB hi lr) λm2 c2 q2 Oc M2 i4 Of=>?_
  refine yA ?_;have:=K (.o Oc.length ni.length p a m m2) c2 q2 (nw Oc) (by rw[jJ];exact(show(Sm.o Oc.length ni.length p a m m2).I.J=Oc.length::ni.length::(m.I.J++m2.I.J)by show _::_::(m.I.V++(m2.I.V++[])).map Tr.c'=_;rw[az,aD];rfl)▸(M.V M2).O) (by rw[jJ];exact TG (.a ja aU) (.a jb jc) [.a (.a iH (.m 2 jd)) jc,.a je (.a (.a jb aU) jd),.a ja (.a je jd)] rfl hB hl i4) (WP h0 (Nat.max_le.mpr ⟨hm,Of⟩))
  rw[show(Sm.o Oc.length ni.length p a m m2).c'=m.O++m2.O from rfl,aD,<-aK]at this
  exact this

variable{fS:Nat}
noncomputable def AQ:List Sm->Ss
 |[]=>.g
 |m::r=>.c m (AQ r)
theorem JV:∀ms:List Sm,(AQ ms).I.J=ms.map λm=>m.I.I
 |[]=>rfl
 |m::r=>congrArg (m.I.I:: ·) (JV r)
theorem FU:∀ms:List Sm,(AQ ms).I.V=ms.flatMap λm=>m.I.J
 |[]=>rfl
 |m::r=>by show(m.I.V++(AQ r).I.e').map Tr.c'=m.I.J++_;rw[aD];exact congrArg (m.I.J++ ·) (FU r)
theorem CT:∀ms:List Sm,(AQ ms).V=ms.flatMap Sm.c'
 |[]=>rfl
 |m::r=>congrArg (m.c'++ ·) (CT r)
theorem FW{D:Nat}:∀{ms:List Sm},(∀m∈ms,m.d'<=D)->(AQ ms).O<=D
 |[],_=>bI _
 |m::r,h=>Nat.max_le.mpr ⟨h m aj,FW λx hx=>h x (af _ hx)⟩
theorem kq.d'(m:kq is rs lo hi p q):kq (hi::is) rs lo (hi+1) p q:=
 ⟨cD.mpr ⟨λh=>by have:=(m.c hi h).2;exact YO [.b ja ja] rfl this,m.f⟩,λi h=>by
   rcases aF.mp h with rfl|h
   .exact⟨m.I,bD _⟩
   .exact⟨(m.c i h).1,gY (m.c i h).2⟩,dQ m.g,m.j,m.k,m.d⟩
noncomputable abbrev TN(dp:Nat)(lp:Bool)(fS:Nat)(a:S7):dj:=[some (.a (.e 0)),some (.a (.e 5)),some (.a (.d dp)),some (.a (.g lp)),some (.a (.d fS)),some (.b 0 0),a]
abbrev bkB(cl:CL):XV:=bU (xD (oJ cl (bx 5) 10 (bO (tE cl 82 (bO (bx 0) (bO (bx 1) (bO (bx 2) (bO (bx 3) d9))))) d9))) eG
def BkL(n:Nat)(vs:S1)(B dp fS:Nat)(lp:Bool)(c:Nat)(k:KX)(lo:Nat)(p0:Int)(rg:V5)(r:Nat):Prop:=∀(j:Nat)(ms:List Sm)(s:Nat)(cZ:S3)(p:Int)(ni:S1)(a:S7),j+r=c->c<100->ms.length=j->cZ.length+r*B<90000->kq (ms.flatMap λm=>m.I.J) (ms.flatMap Sm.c') lo ni.length p0 p->(∀m∈ms,m.d'<=2*dp+1)->
  (∀(uI:List Sm)(s':Nat)(q:Int)(jR:S1)(a:S7),kq ((ms++uI).flatMap λm=>m.I.J) ((ms++uI).flatMap Sm.c') lo jR.length p0 q->jR.length<=ni.length+r*B->(∀m∈ms++uI,m.d'<=2*dp+1)->k .a (TN dp lp fS a) (SW (dC s' vs) (cZ++(uI.flatMap Sm.c').map nN) q ([.a ((ms++uI).map λm=>m.I.I)]::rg) jR))->
  forLoop (.inl 6) (.c c) (bkB (av n)) (r+1) j (TN dp lp fS a) (SW (dC s vs) cZ p ([.a (ms.map λm=>m.I.I)]::rg) ni) k
theorem Rq{k:KX}{p0:Int}(hs:TP vs n dp lp B)(r:Nat):BkL n vs B dp fS lp c k lo p0 rg r:=by
 induction r with
 |zero=>
  intro j ms s cZ p ni a hj hc hm hi M hd K;have:=K [] s p ni a (by rw[az];exact M) (cB ..) (by rw[az];exact hd)
  rw[az,show cZ++(([]:List Sm).flatMap Sm.c').map nN=cZ from az _]at this
  exact cG (o:=some (if j<c then some (PV.d j)else none)) rfl (w7 (if_neg (by exact nI.mpr (mK ja jb [.e (.a jb fU) ja] rfl hj))) this)
 |succ r ih=>
  intro j ms s cZ p ni a hj hc hm hi M hd K;refine cG (o:=some (if j<c then some (PV.d j)else none)) rfl (uh (if_pos (by exact lS ja jb [.f (.a ja (.a jc aU)) jb] rfl hj)) ?_)
  have e1:(r+1)*B=r*B+B:=Nat.succ_mul ..;refine hs s cZ p ni _ _ (by exact Xp (.a ja jb) br [.b (.a ja jc) br,.e jc (.a jd jb)] rfl hi e1) λm s' q jR M2 hl hdm=>?_
  refine dP (p:=(ms.map λm=>m.I.I).length<100000) (by rw[ao];exact Xp ja aX [.f (.a jb (.a jc aU)) jd,.b jd uP,.f ja jb] rfl hj hc hm) ?_
  have fl:∀{β:Type}(f:Sm->List β),(ms++[m]).flatMap f=ms.flatMap f++f m:=λf=>by rw[oZ,List.flatMap_cons];exact congrArg _ (az _)
  have:=ih (j+1) (ms++[m]) s' (cZ++m.c'.map nN) q jR (some (.a (.d j))) (by exact gT (pR (.a (.a ja aU) jb) jc [.f (.a ja (.a jb aU)) jc] rfl hj) (pR ja (.a (.a jb aU) jc) [.e (.a jb (.a jc aU)) ja] rfl hj)) hc (by rw[aa];exact congrArg (· +1) hm) (by rw[aa,ao];have:=M2.g;exact jT7 (.a (.a ja jb) jc) br [.b (.a ja jd) br,.e jd (.a jc je),.a jf (.a jg je),.a (.a jb jg) jf] rfl hi e1 hl this) (by rw[fl,fl];exact M.V M2) (λx hx=>(aS.mp hx).elim (hd x) λhx=>aB.mp hx▸hdm) λuI s2 q2 Oc a2 M3 hl3 hd3=>by
   have e3:ms++[m]++uI=ms++m::uI:=aK ..;rw[e3]at M3 hd3⊢
   have:=K (m::uI) s2 q2 Oc a2 M3 (by exact jL6 ja (.a jb jc) [.a jd (.a jb je),.a ja (.a jd jf),.e jc (.a jf je)] rfl hl hl3 e1) hd3
   rw[List.flatMap_cons,aD,<-aK]at this
   exact this
  rw[aD]at this
  exact this

def eJ(K:It->St->Prop)(s:St)(j:Int):Prop:=gb (decide (0<=j/\j<1000000)) (K (.c j.toNat) s)
def eI(fS:Nat)(K:It->St->Prop)(v:PV)(s:St):Prop:=tF .a (.a (.d fS)) (.a v) s λv s=>pb v λv=>ib v (eJ K s)
theorem WJ{a b:Int}{s:St}{k:KV}(h:k (.a (.d (a+b))) s):tF .a (.a (.d a)) (.a (.d b)) s k:=h
theorem ZI{f:Int->Prop}{j:Int}(h:f j):pb (.a (.d j)) (λv=>ib v f):=h
theorem ZF{K:It->St->Prop}{s:St}{j:Nat}(h:K (.c j) s)(hj:j<1000000):eJ K s (j:Nat):=by
 unfold eJ;have e:decide (0<=(j:Int)/\(j:Int)<1000000)=true:=decide_eq_true ⟨by exact bC _,by exact TH ja (.n 1000000) [.b ja (.n 1000000)] rfl (dK.mpr hj)⟩
 rw[e];exact h
theorem wt{l x:Nat}{K:It->St->Prop}{s:St}(h:K (.c (l+x)) s)(hl:l<2)(hx:x<3):eI l K (.d x) s:=by
 have q:l+x<1000000:=fh (.a ja jb) (.n 1000000) [.b ja iH,.b jb GC] rfl hl hx;unfold eI;with_reducible refine WJ ?_
 with_reducible refine ZI ?_
 rw[show(l:Int)+(x:Int)=((l+x:Nat):Int)from rfl]
 with_reducible exact ZF h q
theorem zs{K:It->St->Prop}(hl:vs.length<1000)(i4:fS<2)(go:∀x,x<3->K (.c (fS+x)) (SW (dC (c+1:Nat) vs) cZ p rg ni)):
  bh (av (n+1)) (Fw.d.I 1).J.J (TN dp lp fS none) (SW (dC c vs) cZ p rg ni) K:=by
 rw[<-CX (l:=[76])];have e1:[bh (jw [76] (n+1)) (Fw.d.I 1).J.J (TN dp lp fS none) (SW (dC c vs) cZ p rg ni) K]=[av (n+1) 76 [.a (.e 0),.a (.d 3)] (SW (dC c vs) cZ p rg ni) (eI fS K)]:=by kernel_rfl
 have e2:=jI e1;rw[e2];refine qk (p:=c) hl (by decide) λv h0 h3=>?_
 obtain⟨x,rfl⟩:=dm h0;have h4:x<3:=inl h3;have g:=go x h4;with_reducible refine wt ?_ i4 h4
 exact g
theorem Dn(hl:vs.length<1000)(h2:fS<2)(hs:TP vs (n+2) dp lp B)(hB:1+(fS+2)*B<=B')(hB2:B'<10000):XH vs (n+3) dp lp fS B':=by
 intro c cZ p ni rg k hi K;refine in_w ?_;show(Yy (av (n+2))).1 (([.a (.e 0),.a (.e 5),.a (.d dp),.a (.g lp),.a (.d fS)]:WC).map some++List.replicate 2 none) (SW (dC c vs) cZ p ([]::rg) ni) (eF k);rw[<-(Yy _).2];show bh (av (n+2)) (Fw.d.I 1).J.J (TN dp lp fS none) (SW (dC c vs) cZ p ([.a []]::rg) ni) λi s=>forLoop (.inl 6) i (bkB (av (n+2))) (iC i s+1) 0 (TN dp lp fS none) s λfl loc s=>fb fl (ay (av (n+2)) (Fw.d.I 2) loc s (eF k)) (eF k fl loc s)
 refine zs hl h2 λx hx=>?_
 have m1:(fS+x)*B<=(fS+2)*B:=Nat.mul_le_mul_right _ (by exact mK (.a ja jb) (.a ja iH) [.b jb GC] rfl hx)
 refine Rq (c:=fS+x) (lo:=ni.length) (p0:=p) hs (fS+x) 0 [] (c+1) cZ p ni none (gc _) (by exact fh (.a ja jb) uP [.b ja iH,.b jb GC] rfl h2 hx) rfl (by exact Xp (.a ja jb) br [.a (.a aU jc) jd,.b (.a ja jd) br,.a jb jc] rfl hB hi m1) .c' (λJ h=>nomatch h) λuI s' q jR a M hn hd=>?_
 show av (n+2) 74 [.a (.d 59),.a eS,.a (.j (uI.map λm=>m.I.I)),.a (.d q)] (SW (dC s' vs) (cZ++(uI.flatMap Sm.c').map nN) q ([.d]::rg) jR) λv s=>k v (s.I List.tail)
 refine Vw ?_;have:=K (.mk jR.length q (AQ uI)) s' q (nw jR) (by show kq (jR.length::(AQ uI).I.V) (AQ uI).V _ _ _ _;rw[FU,CT,jJ];exact M.d') (by rw[jJ];exact TG (.a ja aU) (.a jb jc) [.a (.a aU jd) jc,.a je jd,.a ja (.a jb je)] rfl hB m1 hn) (cA (FW hd))
 rw[show(Bk.mk jR.length q (AQ uI)).O=(AQ uI).V from rfl,CT,show(Bk.mk jR.length q (AQ uI)).I.I=.l jR.length [.d 59,eS,.j (AQ uI).I.J,.d 0,.d q]from rfl,JV]at this
 exact this

theorem Zr(hl:vs.length<1000):XH vs (n+8) 2 false 1 349:=
 have s0:∀n lp,TP vs (n+3) 0 lp 6:=λn lp=>CK (B':=0) hl (by decide) (by decide) (by decide) λh=>absurd rfl h
 have b0:∀n lp,XH vs (n+4) 0 lp 0 13:=λn lp=>Dn hl (by decide) (s0 n lp) (by decide) (by decide)
 have s1:∀n lp,TP vs (n+5) 1 lp 28:=λn lp=>CK (B':=13) hl (by decide) (by decide) (by decide) λJ=>b0 n
 have b1:∀n lp,XH vs (n+6) 1 lp 0 57:=λn lp=>Dn hl (by decide) (s1 n lp) (by decide) (by decide)
 have s2:∀n lp,TP vs (n+7) 2 lp 116:=λn lp=>CK (B':=57) hl (by decide) (by decide) (by decide) λJ=>b1 n
 Dn hl (by decide) (s2 n false) (by decide) (by decide)
structure sJ(d m:Nat)(j:WL)(rj:S5)(g:List (Nat×V8))(k:WG):Prop where
 d:d<=4*rj.length
 m:m<=rj.length
 j:j=g.map λe=>(e.1,pW e.2)
 g:(g.map (·.1)).Sublist rj
 f:(k.filterMap λr=>r.v.map (·.1)).Sublist rj
 k:∀r∈k,r.i∈rj
variable{z z2 c2:Nat}{l l2:WL}{is2:S5}{cs cs2:List (Nat×V8)}{Uf:WG}
theorem sJ.V(a:sJ z c l is cs rs)(b:sJ z2 c2 l2 is2 cs2 Uf):sJ (z+z2) (c+c2) (l++l2) (is++is2) (cs++cs2) (rs++Uf):=
 ⟨by rw[aa];have t9:=a.d;have:=b.d;exact ri (.a ja jb) (.m 4 (.a jc jd)) [.a ja (.m 4 jc),.a jb (.m 4 jd)] rfl t9 this,by rw[aa];have t9:=a.m;have:=b.m;exact ri (.a ja jb) (.a jc jd) [.a ja jc,.a jb jd] rfl t9 this,by rw[a.j,b.j,aD],by rw[aD];exact a.g.append b.g,by rw[List.filterMap_append];exact a.f.append b.f,
  λr hr=>(aS.mp hr).elim (λh=>b9 _ (a.k r h)) λh=>bw _ (b.k r h)⟩
theorem sJ.I(a:sJ z c l is cs rs)(hz:z2<=z+4)(hc:c2<=c+1):sJ z2 c2 l (i::is) cs rs:=⟨by have:=a.d;show _<=4*(is.length+1);exact pR ja (.m 4 (.a jb aU)) [.a ja (.a jc qz),.a jc (.m 4 jb)] rfl hz this,by have:=a.m;show _<=is.length+1;exact pR ja (.a jb aU) [.a ja (.a jc aU),.a jc jb] rfl hc this,a.j,a.g.cons _,a.f.cons _,λr hr=>af _ (a.k r hr)⟩
theorem sJ.O(h1:z<=4*is.length)(h2:c<=is.length):sJ z c [] is [] []:=⟨h1,h2,rfl,iK _,iK _,λJ h=>nomatch h⟩
mutual
theorem Sm.H':∀m:Sm,sJ m.I.O m.g' m.I.e' m.I.J m.j' m.c'
 |.D i p none=>⟨(by decide:2<=4),(by decide:1<=1),rfl,iK _,iK _,λr h=>aB.mp h▸aj⟩
 |.D i p (some x)=>⟨(by decide:2<=8),(by decide:1<=2),rfl,iK _,(List.Sublist.refl [x.1]).cons _,λr h=>aB.mp h▸aj⟩
 |.L i j p=>.O (by decide:2<=8) (by decide:1<=2)
 |.E i p=>.O (by decide:1<=4) (by decide:1<=1)
 |.C i c g p w=>⟨(by decide:3<=12),(by decide:1<=3),rfl,((iK [g]).cons_cons c).cons _,iK _,λJ h=>nomatch h⟩
 |.M i f l b r v p=>.O (by decide:8<=24) (by decide:1<=6)
 |.B i q p c b=>by
  rw[show(Sm.B i q p c b).I.J=i::q::b.I.J by show i::q::(b.I.V++[]).map Tr.c'=_;rw[az],show(Sm.B i q p c b).I.e'=b.I.e' by induction c<;>exact az _]
  exact(b.j'.I (z2:=b.I.O+1) (c2:=b.c') (by exact kQ (.a ja aU) (.a ja qz) [] rfl) (bL _)).I (by show 0+1+b.I.O+1<=_;exact kQ (.a (.a (.a fU aU) ja) aU) (.a (.a ja aU) qz) [] rfl) (aH _)
 |.o i q p a y z=>by
  rw[show(Sm.o i q p a y z).I.J=i::q::(y.I.J++z.I.J)by show i::q::(y.I.V++(z.I.V++[])).map Tr.c'=_;rw[az,aD],show(Sm.o i q p a y z).I.e'=y.I.e'++z.I.e' by rw[<-az z.I.e'];induction a with
   |none=>rfl
   |some a=>induction a<;>rfl]
  exact((y.j'.V z.j').I (z2:=y.I.O+z.I.O+1) (c2:=y.c'+z.c') (by exact mK (.a (.a ja jb) aU) (.a (.a ja jb) qz) [] rfl) (bL _)).I (by show 0+1+(y.I.O+z.I.O)+1<=_;exact mK (.a (.a (.a fU aU) (.a ja jb)) aU) (.a (.a (.a ja jb) aU) qz) [] rfl) (aH _)
theorem Bk.j':∀m:Bk,sJ m.I.O m.c' m.I.e' m.I.J m.i' m.O
 |.mk i p ss=>ss.n'.I (cB _ 3) (cB ..)
theorem Ss.n':∀m:Ss,sJ m.I.O m.J m.I.f' m.I.V m.f' m.V
 |.g=>.O (aH _) (aH _)
 |.c s r=>by
  have:=s.H'.V r.n';rw[show s.I.J++r.I.V=(Ss.c s r).I.V from aD.symm]at this
  exact this
end

variable{ns:S1}{q:KX}
noncomputable abbrev mL:S5:=[75,76,81,89,44,78,85,86,61,47,88]
abbrev mM(n:Nat):CL:=jw mL n
noncomputable def nP.O:Nat->nP->nP
 |0,_=>.c
 |n+1,b=>match b with
  |.a s r=>.a s (r.O n)
  |.c=>.c
theorem Yl{cl:CL}:∀(i:Nat)(b:nP){loc:dj}{s:St}{q:KX},ay cl (b.O i) loc s (λfl loc s=>fb fl (ay cl (b.I i) loc s q) (q fl loc s))=ay cl b loc s q
 |0,b,loc,s,q=>rfl
 |i+1,.c,loc,s,q=>rfl
 |i+1,.a st r,loc,s,q=>by
  show bf cl st loc s (λfl loc s=>fb fl (ay cl (r.O i) loc s (λfl loc s=>fb fl (ay cl (r.I i) loc s q) (q fl loc s))) (fb fl (ay cl (r.I i) loc s q) (q fl loc s)))=bf cl st loc s (λfl loc s=>fb fl (ay cl r loc s q) (q fl loc s))
  refine congrArg _ (funext λfl=>funext λloc=>funext λs=>?_)
  rw[Yl i r];induction fl<;>rfl
abbrev mR(n j:Nat):XV:=ay (mM n) (t7.d.I j)
abbrev mS(n j i:Nat):XV:=ay (mM n) ((t7.d.I j).O i)
theorem Sp:∃F:Nat->Nat->XV,F=λn j=>mR n j:=⟨_,rfl⟩
def mW:Nat->Nat->XV:=Classical.choose Sp
theorem DE{j:Nat}:mW n j=mR n j:=congrFun (congrFun (Classical.choose_spec Sp) n) j
abbrev mQ(n j:Nat)(q:KX):KX:=λfl loc s=>fb fl (mW n j loc s q) (q fl loc s)
theorem gi{j:Nat}(i:Nat){loc:dj}{s:St}{q:KX}{P:KX->Prop}(e:∀q,[mS n j i loc s q]=[P q])(h:P (mQ n m q))(e2:(t7.d.I j).I i=t7.d.I m):mW n j loc s q:=by
 have:=Yl (cl:=mM n) i (t7.d.I j) (loc:=loc) (s:=s) (q:=q);rw[e2]at this
 have hq:(λfl loc s=>fb fl (ay (mM n) (t7.d.I m) loc s q) (q fl loc s))=mQ n m q:=by funext fl loc s;show _=fb fl (mW n m loc s q) _;rw[DE]
 rw[DE,mR,<-this,hq];exact(jI (e (mQ n m q))).mpr h
theorem iw{a b:Prop}(h:a=b):[a]=[b]:=h▸rfl
noncomputable def lK{α β:Type}(f:α->β)(l:List α):List β:=List.rec [] (λa J r=>f a::r) l
theorem cL{α β:Type}{f g:α->β}:∀{l:List α},l.map f=lK g l->∀{x:α},x∈l->f x=g x
 |a::l,h,x,hx=>(aF.mp hx).elim (λe=>e▸(fF h).1) λhx=>cL (fF h).2 hx
noncomputable def lc(l:S3)(r:List (S7)):dj:=l.map (λv=>some (.a v))++r++List.replicate (37-l.length-r.length) none
theorem m0(hl:vs.length<=100000)(hv:vs=ns.take 40)(K:mW n 1 (lc [.n ns,.e 0] []) ⟨[dC 0 vs],[[]],[]⟩ q):mW n 0 (lc [.n ns] []) ⟨[],[[]],[]⟩ q:=by
 have e:mS n 0 1=bU (gJ 1 (SY (tD (bO (bN (.d 0)) (bO (sI false (Tc (bx 33) (.inl 33) (sI false (Kw (bx 0) none (some 40))))) d9))))) eG:=rfl;subst hv;refine gi 1 (m:=1) (P:=λq=>mS n 0 1 (lc [.n ns] []) ⟨[],[[]],[]⟩ q) (λq=>rfl) ?_ rfl
 rw[e];refine dP (p:=((ns.take 40).map PV.d).length<=100000) (by rw[ao];exact hl) ?_
 exact yV (f:=PV.d) (g:=PV.d) (vs:=ns.take 40) (λJ=>rfl) (ao ..) K λv J q hq=>hq
abbrev sT(d:ah)(j:Nat):St:=⟨[d,DZ,.a (T1.take j),.e true (wR 0 (T1.take j))],[[]],[]⟩
theorem m1(K:av (n+4) 76 [.a (.e 0),.a (.d 192)] (sT d 16) λv s=>mW (n+4) 3 (lc [.n ns,.e 0,.e 1,v] []) s q):mW (n+4) 1 (lc [.n ns,.e 0] []) ⟨[d],[[]],[]⟩ q:=gi 2 (m:=3) (P:=λq=>av (n+4) 76 [.a (.e 0),.a (.d 192)] (sT d 16) λv s=>q .a (lc [.n ns,.e 0,.e 1,v] []) s) (λq=>by kernel_rfl) K rfl
noncomputable def hS(x:Nat):Nat:=x%8
noncomputable def hW(x:Nat):Bool:=decide (x/8%2=1)&&(!decide (x%8=5)&& !decide (x%8=6))
noncomputable def hT(x:Nat):Nat:=x/16%3
theorem m2{x:Nat}(hx:x<192){s:St}(K:mW n 6 (lc [.n ns,.e 0,.e 1,.d x,.d (hS x),.g (hW x),.d (hT x)] []) s q):mW n 3 (lc [.n ns,.e 0,.e 1,.d x] []) s q:=by
 have e:∀q:KX,(List.range 192).map (λ(x:Nat)=>mS n 3 3 (lc [.n ns,.e 0,.e 1,.d x] []) s q)=lK (λ(x:Nat)=>q .a (lc [.n ns,.e 0,.e 1,.d x,.d (hS x),.g (hW x),.d (hT x)] []) s) (List.range 192):=λq=>by kernel_rfl
 exact gi 3 (m:=6) (P:=λq=>q .a (lc [.n ns,.e 0,.e 1,.d x,.d (hS x),.g (hW x),.d (hT x)] []) s) (λq=>iw (cL (e q) (cE.mpr hx))) K rfl
abbrev SH:S3:=dG.map λh=>t2 h (fR h)
abbrev RY:S3:=cK.map iX
noncomputable abbrev W7:S1:=[25,20,23,4,6,15,5,26,7,14,3,0,2,24,1,12]
variable{a3 a4 a5 a6 a7 a8:PV}
theorem m3(K:av (n+8) 76 [.a (.e 0),.a (.d 8)] (sT d 21) λv s=>nD (.a (.j SH)) (.a v) s λv=>mW (n+8) 7 (lc [.n ns,.e 0,.e 1,a3,a4,a5,a6] [some v]) s q):mW (n+8) 6 (lc [.n ns,.e 0,.e 1,a3,a4,a5,a6] []) (sT d 16) q:=gi 1 (m:=7) (P:=λq=>av (n+8) 76 [.a (.e 0),.a (.d 8)] (sT d 21) λv s=>nD (.a (.j SH)) (.a v) s λv=>q .a (lc [.n ns,.e 0,.e 1,a3,a4,a5,a6] [some v]) s) (λq=>by kernel_rfl) K rfl
theorem m4(K:av (n+8) 76 [.a (.e 0),.a (.d 12)] (sT d 23) λv s=>nD (.a (.j RY)) (.a v) s λv=>mW (n+8) 8 (lc [.n ns,.e 0,.e 1,a3,a4,a5,a6,a7] [some v]) s q):mW (n+8) 7 (lc [.n ns,.e 0,.e 1,a3,a4,a5,a6,a7] []) (sT d 21) q:=gi 1 (m:=8) (P:=λq=>av (n+8) 76 [.a (.e 0),.a (.d 12)] (sT d 23) λv s=>nD (.a (.j RY)) (.a v) s λv=>q .a (lc [.n ns,.e 0,.e 1,a3,a4,a5,a6,a7] [some v]) s) (λq=>by kernel_rfl) K rfl
theorem m5(K:mW (n+8) 10 (lc [.n ns,.e 0,.e 1,a3,a4,a5,a6,a7,a8,.j (W7.map dz),.e 5] []) (SW d [] 10 [[]] []) q):mW (n+8) 8 (lc [.n ns,.e 0,.e 1,a3,a4,a5,a6,a7,a8] []) (sT d 23) q:=gi 2 (m:=10) (P:=λq=>q .a (lc [.n ns,.e 0,.e 1,a3,a4,a5,a6,a7,a8,.j (W7.map dz),.e 5] []) (SW d [] 10 [[]] [])) (λq=>by kernel_rfl) K rfl
inductive Bd
 |c
 |b (x:Nat)
 |a (m:Bk)
def Bd.J:Bd->PV
 |.c=>.h
 |.b _=>gO 0 8
 |.a m=>m.I.I
def Bd.I:Bd->Ks
 |.c=>.c .a
 |.b _=>.b (oN 0 8 1 (.d 0) .a) .a
 |.a m=>.b m.I .a
def Bd.O:Bd->S3
 |.c=>[]
 |.b x=>[.f [gO 0 8,.d x]]
 |.a m=>m.O.map nN
noncomputable def YD(x:Nat):Bool:=decide (x/48=3)&&(decide (x%8%2=0)&&decide (x%8<4))
def NX(n:Nat)(S:St)(x:Nat)(K:PV->St->Prop):Prop:=if YD x then K .h S else if x%8=4 then av n 76 [.a (.e 0),.a (.d 16)] ⟨S.b,S.a,[0]⟩ λv s=>rG (.a (.e 4)) (.a (.f [gO 0 8,v])) s λs=>K (gO 0 8) s else av n 81 [.a (.e 0),.a (.e 5),.a (.d (2:Nat)),.a (.g false),.a (.d (1:Nat))] S K
abbrev qZ(ns:S1)(x:Nat)(a7 a8:PV)(l:S3):dj:=lc ([.n ns,.e 0,.e 1,.d x,.d (hS x),.g (hW x),.d (hT x),a7,a8,.j (W7.map dz),.e 5]++l) []
theorem m6{x:Nat}(hx:x<192)(K:NX (n+8) (SW d [] 10 [[]] []) x λb s=>mW (n+8) 11 (qZ ns x a7 a8 [b]) s q):mW (n+8) 10 (qZ ns x a7 a8 []) (SW d [] 10 [[]] []) q:=by
 have e:∀q:KX,(List.range 192).map (λ(x:Nat)=>mS (n+8) 10 1 (qZ ns x a7 a8 []) (SW d [] 10 [[]] []) q)=lK (λ(x:Nat)=>NX (n+8) (SW d [] 10 [[]] []) x λb s=>q .a (qZ ns x a7 a8 [b]) s) (List.range 192):=λq=>by kernel_rfl
 exact gi 1 (m:=11) (P:=λq=>NX (n+8) (SW d [] 10 [[]] []) x λb s=>q .a (qZ ns x a7 a8 [b]) s) (λq=>iw (cL (e q) (cE.mpr hx))) K rfl

variable{x:Nat}{b:PV}
def Hc(x:Nat)(p:Int)(ni:S1):Bd->Prop
 |.c=>YD x=true/\p=10/\ni=[]
 |.b y=>x%8=4/\y<16/\p=10/\ni=[0]
 |.a m=>x%8≠4/\kq m.I.J m.O 0 ni.length 10 p/\ni.length<=349/\m.d'<=6
theorem JI{L:S3}{v:Int}{s:St}{k:MV->Prop}(h0:0<=v)(h1:v<L.length)(K:∀e∈L,k (.a e)):nD (.a (.j L)) (.a (.d v)) s k:=by obtain⟨j,rfl⟩:=dm h0;have hj:j<L.length:=dK.mp h1;exact cG (o:=kI L (j:Nat)) (a:=L[j]) (by unfold kI;rw[if_pos (bC j),Int.toNat_natCast,b7 hj]) (K _ (List.getElem_mem hj))
theorem MH{cl:CL}{f:Nat}{args full:WC}{s:St}{mf:Cb}{L:dj}(h:xH[f]?=some mf)(h2:r7 mf args=some full)(h3:full.map some++List.replicate (mf.c-mf.a) none=L)(h4:s.I ([]:: ·)=S)(K:mf.d cl L S (eF k)):ny cl f args s k:=by subst h3 h4;exact cG h (cG h2 K)
theorem LP(go:∀x,x<192->∀h∈dG,∀w∈cK,∀(b:Bd)(c:Nat)(p:Int)(ni:S1),Hc x p ni b->mW (n+13) 11 (qZ ns x (t2 h (fR h)) (iX w) [b.J]) (SW (dC c (ns.take 40)) b.O p [[]] ni) (eF k)):
  av (n+14) 90 [.a (.n ns)] ⟨[],[],[]⟩ k:=by
 have hl:(ns.take 40).length<1000:=by rw[List.length_take];exact bB (Nat.min_le_left ..) (by decide)
 generalize hv:ns.take 40=vs at hl go
 refine fP mL ?_;refine MH (mf:=⟨t7.a,t7.b,t7.c,λcl=>(Xa cl).1⟩) (L:=lc [.n ns] []) (S:=⟨[],[[]],[]⟩) rfl rfl rfl rfl ?_
 with_reducible show(Xa (mM (n+13))).1 (lc [.n ns] []) ⟨[],[[]],[]⟩ (eF k)
 rw[<-(Xa (mM (n+13))).2];rw[show ay (mM (n+13)) t7.d=mR (n+13) 0 from rfl,<-DE]
 refine m0 (Nat.le_of_lt (uK hl (by decide))) hv.symm ?_
 refine m1 (n:=n+9) ?_;refine qk (p:=0) (n:=n+12) hl (by decide) λv h0 h1=>?_
 obtain⟨x,rfl⟩:=dm h0;have hx:x<192:=dK.mp h1;refine m2 hx ?_;refine m3 (n:=n+5) ?_;refine qk (p:=1) (n:=n+12) hl (by decide) λv h0 h1=>?_
 refine JI h0 h1 λe he=>?_
 obtain⟨h,hh,rfl⟩:=bF.mp he;refine m4 (n:=n+5) ?_;refine qk (p:=2) (n:=n+12) hl (by decide) λv h0 h1=>?_
 refine JI h0 h1 λe he=>?_
 obtain⟨w,hw,rfl⟩:=bF.mp he;refine m5 (n:=n+5) ?_;refine m6 (n:=n+5) hx ?_;have go:=go x hx h hh w hw;unfold NX;split
 .exact go .c 3 10 [] ⟨‹_›,rfl,rfl⟩
 .split
  .refine qk (p:=3) (n:=n+12) hl (by decide) λv h0 h1=>?_
   obtain⟨y,rfl⟩:=dm h0;exact go (.b y) 4 10 [0] ⟨‹_›,dK.mp h1,rfl,rfl⟩
  .refine Zr (n:=n+5) hl 3 [] 10 [] [[]] _ (by decide) λm c q ni M hn hd=>?_
   exact go (.a m) c q ni ⟨‹_›,M,by rw[u5,gc]at hn;exact hn,hd⟩

variable{N8:S1}
noncomputable def sY(x:Nat):Int:=([16,4,32,32,12,160,256,96]:S1)[x%8]?.getD 0
abbrev wV(i:Nat):Tr:=oN i 6 71 eS .a
abbrev tkT(i:Nat):Tr:=oN i 7 80 (.k "string") .a
def vh(x:Nat)(ni:S1):S1:=if hW x then nw (nw ni)else nw ni
def mh(x:Nat)(ni:S1):PV:=if hW x then Fi (nw ni).length else .h
def sX(x:Nat)(ni:S1)(b:PV):PV:=nO (vh x ni).length [.h,(wV ni.length).I,mh x ni,b] (sY x)
theorem m7(hx:x<192)(K:av (n+8) 75 [.a (sX x ni b)] (SW d cZ p [[]] (nw (vh x ni))) λJ s=>mW (n+8) 15 (qZ ns x a7 a8 [b,.d (sY x),.j [.h,(wV ni.length).I,mh x ni,b],sX x ni b]) s q):mW (n+8) 11 (qZ ns x a7 a8 [b]) (SW d cZ p [[]] ni) q:=by
 have e:∀q:KX,(List.range 192).map (λ(x:Nat)=>mS (n+8) 11 4 (qZ ns x a7 a8 [b]) (SW d cZ p [[]] ni) q)=lK (λ(x:Nat)=>av (n+8) 75 [.a (sX x ni b)] (SW d cZ p [[]] (nw (vh x ni))) λJ s=>q .a (qZ ns x a7 a8 [b,.d (sY x),.j [.h,(wV ni.length).I,mh x ni,b],sX x ni b]) s) (List.range 192):=λq=>by kernel_rfl
 exact gi 4 (m:=15) (P:=λq=>av (n+8) 75 [.a (sX x ni b)] (SW d cZ p [[]] (nw (vh x ni))) λJ s=>q .a (qZ ns x a7 a8 [b,.d (sY x),.j [.h,(wV ni.length).I,mh x ni,b],sX x ni b]) s) (λq=>iw (cL (e q) (cE.mpr hx))) K rfl
theorem m8(hx:x<192)(K:av (n+8) 89 [.a (.e 1),.a (if x%8=4 then .h else b),.a (sX x ni b),.a (.d (hT x)),.a (.e 6)] (S4 d [] (I5 (.a cZ) (.a [.d p,.e 4])) [[]] N8) λv s=>mW (n+8) 17 (qZ ns x a7 a8 [b,.d (sY x),.j [.h,(wV ni.length).I,mh x ni,b],sX x ni b,.e 6,v]) s q):mW (n+8) 15 (qZ ns x a7 a8 [b,.d (sY x),.j [.h,(wV ni.length).I,mh x ni,b],sX x ni b]) (SW d cZ p [[]] N8) q:=by
 have e:∀q:KX,(List.range 192).map (λ(x:Nat)=>mS (n+8) 15 2 (qZ ns x a7 a8 [b,.d (sY x),.j [.h,(wV ni.length).I,mh x ni,b],sX x ni b]) (SW d cZ p [[]] N8) q)=lK (λ(x:Nat)=>av (n+8) 89 [.a (.e 1),.a (if x%8=4 then .h else b),.a (sX x ni b),.a (.d (hT x)),.a (.e 6)] (S4 d [] (I5 (.a cZ) (.a [.d p,.e 4])) [[]] N8) λv s=>q .a (qZ ns x a7 a8 [b,.d (sY x),.j [.h,(wV ni.length).I,mh x ni,b],sX x ni b,.e 6,v]) s) (List.range 192):=λq=>by kernel_rfl
 exact gi 2 (m:=17) (P:=λq=>av (n+8) 89 [.a (.e 1),.a (if x%8=4 then .h else b),.a (sX x ni b),.a (.d (hT x)),.a (.e 6)] (S4 d [] (I5 (.a cZ) (.a [.d p,.e 4])) [[]] N8) λv s=>q .a (qZ ns x a7 a8 [b,.d (sY x),.j [.h,(wV ni.length).I,mh x ni,b],sX x ni b,.e 6,v]) s) (λq=>iw (cL (e q) (cE.mpr hx))) K rfl

structure Mp where
 j:PV
 i:PV
 s:Int
 d:Bool
 c:Int
 h:Int
 w:Int
 b:PV
 g:Int
 f:S3
 e:Nat
def Mp.fn(z:Mp):PV:=nO z.e z.f z.g
def Mp.c'(z:Mp)(l:S3):dj:=lc ([z.j,.e 0,.e 1,z.i,.d z.s,.g z.d,.d z.c,t2 z.h (fR z.h),iX z.w,.j (W7.map dz),.e 5,z.b,.d z.g,.j z.f,z.fn,.e 6,.e 17]++l) []
variable{z:Mp}
theorem m9(K:mW n 18 (z.c' [.e 27]) (S4 d X (kr f [.a []]).I ([]::rg) ni) q):mW n 17 (z.c' []) (S4 d X (kr f []).I ([]::rg) ni) q:=gi 1 (m:=18) (P:=λq=>q .a (z.c' [.e 27]) (S4 d X (kr f [.a []]).I ([]::rg) ni)) (λq=>by kernel_rfl) K rfl
def eO(j:Nat):Int:=(W7[j]?).getD 0
def Xb:nP:=(t7.d.I 18).J.I
structure Tw where
 b:S8
 a:S3
noncomputable def Tw.I(f:Fc)(t:Tw):Fc:=kr {f with a:=t.b} [.a t.a]
def Tw.J(ni:S1)(t:Tw)(r:Rt):Tw:=⟨match r.v with
 |some v=>cY (.d (ni[v.1]?.getD 0)) (.d (eO v.2)) t.b
 |none=>t.b,t.a++[jS eO r]⟩
def Mp.V(z:Mp)(a:S7×S7):dj:=((z.c' [.e 27]).set 18 a.1).set 19 a.2
theorem wn{t:Tw}{y:Nat}{u:Int}{a:S7×S7}(hs:z.s∈eT)(hy:y<16)(hu:ni[c]?=some u)(h1:t.b.length<100000)(h2:t.a.length<100000)(K:∀a,q .a (z.V a) (S4 d X ((t.J ni ⟨i,p,some (c,y)⟩).I f).I ([]::rg) ni)):
  eU (.inr [18,19]) (.a (nN ⟨i,p,some (c,y)⟩)) (z.V a) λloc=>ay (mM n) Xb loc (S4 d X (t.I f).I ([]::rg) ni) q:=by
 have e:eT.map (λs=>(List.range 16).map λ(y:Nat)=>eU (.inr [18,19]) (.a (nN ⟨i,p,some (c,y)⟩)) (({z with s:=s}:Mp).V a) λloc=>ay (mM n) Xb loc (S4 d X (t.I f).I ([]::rg) ni) q)=lK (λs=>lK (λ(y:Nat)=>ob ni[c]? λu=>gb (decide (t.b.length<100000)) (gb (decide (t.a.length<100000)) (q .a (({z with s:=s}:Mp).V (some (.a (lq i p (gO c (p+1)))),some (.a (.d y)))) (S4 d X (Tw.I f ⟨cY (.d u) (.d (eO y)) t.b,t.a++[jS eO ⟨i,p,some (c,y)⟩]⟩).I ([]::rg) ni)))) (List.range 16)) eT:=by kernel_rfl
 have e2:=cL (cL e hs) (cE.mpr hy);rw[e2];refine cG (o:=ni[c]?) hu (dP h1 (dP h2 ?_));have:=K (some (.a (lq i p (gO c (p+1)))),some (.a (.d y)));rw[show u=ni[c]?.getD 0 by rw[hu];rfl]
 exact this
theorem wp{t:Tw}{a:S7×S7}(hs:z.s∈eT)(h2:t.a.length<100000)(K:∀a,q .a (z.V a) (S4 d X ((t.J ni ⟨i,p,none⟩).I f).I ([]::rg) ni)):
  eU (.inr [18,19]) (.a (nN ⟨i,p,none⟩)) (z.V a) λloc=>ay (mM n) Xb loc (S4 d X (t.I f).I ([]::rg) ni) q:=by
 have e:eT.map (λs=>eU (.inr [18,19]) (.a (nN ⟨i,p,none⟩)) (({z with s:=s}:Mp).V a) λloc=>ay (mM n) Xb loc (S4 d X (t.I f).I ([]::rg) ni) q)=lK (λs=>gb (decide (t.a.length<100000)) (q .a (({z with s:=s}:Mp).V (some (.a (lq i p .h)),some (.a (.d (-1))))) (S4 d X (Tw.I f ⟨t.b,t.a++[jS eO ⟨i,p,none⟩]⟩).I ([]::rg) ni))) eT:=by kernel_rfl
 have e2:=cL e hs;rw[e2];exact dP h2 (K _)
theorem XT{rs:WG}(hw:f.o=.a (rs.map nN))(hw2:f.w=.a [.d p,.e 4])(hs:z.s∈eT)(hl:rs.length<50000)(hv:∀r∈rs,∀v,r.v=some v->v.2<16/\∃u,ni[v.1]?=some u)(K:∀a,mW n 19 (z.V a) (S4 d X ((rs.foldl (Tw.J ni) ⟨[],[]⟩).I f).I ([]::rg) ni) q):mW n 18 (z.c' [.e 27]) (S4 d X (Tw.I f ⟨[],[]⟩).I ([]::rg) ni) q:=by
 refine gi 1 (m:=19) (P:=λq=>forLoop (.inr [18,19]) (.b (.a (.e 4))) (ay (mM n) Xb) ((rs.map nN).length+1) 0 (z.V (none,none)) (S4 d X (Tw.I f ⟨[],[]⟩).I ([]::rg) ni) λfl loc s=>fb fl (q .a loc s) (q fl loc s)) (λq=>?_) ?_ rfl
 .obtain⟨w1,w,gk,gp,gn,ge,gx,dr,nr,x,sm,ty,rt,tr,ow,nv,tl⟩:=f;obtain rfl:=(show w1=_ from hw)
  obtain rfl:=(show w=_ from hw2)
  kernel_rfl
 .rw[ao];refine k8 (⟨λa=>λJ=>z.V a,λt=>S4 d X (Tw.I f t).I ([]::rg) ni,λm t=>t.b.length+m<60000/\t.a.length+m<60000⟩:Fo (S7×S7) Tw) (Tw.J ni) (f:=nN) (vs:=rs) (x:=⟨[],[]⟩) (a:=(none,none)) (λz j=>?_) rfl ⟨by show 0+_<_;exact fJ (.a fU ja) jr [.b ja aI] rfl hl,by show 0+_<_;exact fJ (.a fU ja) jr [.b ja aI] rfl hl⟩ (λhP a=>K a) λm a t r hr hz=>⟨?_,λq hq=>?_⟩
  .obtain⟨w1,w,gk,gp,gn,ge,gx,dr,nr,x,sm,ty,rt,tr,ow,nv,tl⟩:=f;obtain rfl:=(show w1=_ from hw)
   rfl
  .have:=uT (k:=.d (ni[(r.v.getD (0,0)).1]?.getD 0)) (v:=.d (eO (r.v.getD (0,0)).2)) (D:=t.b);obtain⟨h1,h2⟩:=hz;refine⟨?_,by show(t.a++[_]).length+m<_;rw[aa];show t.a.length+1+m<_;exact fh (.a (.a ja aU) jb) jr [.b (.a ja (.a jb aU)) jr] rfl h2⟩
   obtain⟨i,p,v⟩:=r
   induction v with
   |none=>show t.b.length+m<_;exact fh (.a ja jb) jr [.b (.a ja (.a jb aU)) jr] rfl h1
   |some v=>show(cY _ _ _).length+m<_;exact bB (cN this m) (by exact fh (.a (.a ja aU) jb) jr [.b (.a ja (.a jb aU)) jr] rfl h1)
  .obtain⟨h1,h2⟩:=hz;obtain⟨i,p,v⟩:=r
   induction v with
   |none=>exact wp hs (by exact fh ja aX [.b (.a ja (.a jb aU)) jr] rfl h2) hq
   |some v=>obtain⟨h3,u,hu⟩:=hv _ hr v rfl;exact wn hs h3 hu (by exact fh ja aX [.b (.a ja (.a jb aU)) jr] rfl h1) (by exact fh ja aX [.b (.a ja (.a jb aU)) jr] rfl h2) hq

variable{rj:S5}{t:Tw}{how:Int}{S:S1}
structure Nn(rj:S5)(ni:S1):Prop where
 a:∀i∈rj,∃v:Int,ni[i]?=some v
 inj:∀i∈rj,∀j∈rj,ni[i]?=ni[j]? ->i=j
theorem NZ.I{t:Tr}(h:NZ t ni):Nn t.J ni:=
 ⟨λi hi=>by
  obtain⟨x,hx,rfl⟩:=bF.mp hi;obtain⟨v,hv,J⟩:=h.a x hx;exact⟨v,hv⟩,λi hi j hj e=>by
  obtain⟨x,hx,rfl⟩:=bF.mp hi;obtain⟨y,hy,rfl⟩:=bF.mp hj;exact h.inj x hx y hy e⟩
theorem Nn.I{is:S5}(h:Nn rj ni)(hs:∀i∈is,i∈rj):Nn is ni:=⟨λi hi=>h.a i (hs i hi),λi hi j hj e=>h.inj i (hs i hi) j (hs j hj) e⟩
theorem Sa:∀{rs:WG}{t:Tw},(rs.foldl (Tw.J ni) t).a=t.a++rs.map (jS eO)
 |[],t=>(az _).symm
 |r::rs,t=>by rw[jo,Sa,dD];show t.a++[jS eO r]++_=_;rw[aK];rfl
noncomputable abbrev Iz(rs:WG):S5:=rs.filterMap λr=>r.v.map (·.1)
theorem ze{u:Int}:∀{rs:WG}{t:Tw},(∀i∈Iz rs,ni[i]?.getD 0≠u)->bA (.d u) (rs.foldl (Tw.J ni) t).b=bA (.d u) t.b
 |[],t,h=>rfl
 |⟨i,p,none⟩::rs,t,h=>ze (rs:=rs) h
 |⟨i,p,some v⟩::rs,t,h=>by
  rw[jo,ze (rs:=rs) λi hi=>h i (af _ hi)]
  exact kU (h v.1 aj).symm
theorem Jg(N:Nn rj ni):∀{rs:WG}{t:Tw},(∀i∈Iz rs,i∈rj)->(Iz rs).Nodup->IQ ni (rs.foldl (Tw.J ni) t).b eO rs
 |[],t,h,nd=>λr hr=>nomatch hr
 |⟨i,p,none⟩::rs,t,h,nd=>λr hr v hv=>by
  rcases aF.mp hr with rfl|hr
  .exact nn hv
  .exact Jg N (rs:=rs) h nd r hr v hv
 |⟨i,p,some w⟩::rs,t,h,nd=>λr hr v hv=>by
  obtain⟨nd1,nd2⟩:=cD.mp (show(w.1::Iz rs).Nodup from nd)
  rcases aF.mp hr with rfl|hr
  .obtain rfl:=aq hv;obtain⟨u,hu⟩:=N.a w.1 (h _ aj);refine⟨u,hu,?_⟩;rw[jo,ze (rs:=rs) λj hj e=>?_]
   .show bA _ (cY (.d (ni[w.1]?.getD 0)) _ _)=_;rw[hu];exact jl
   .obtain⟨u2,hu2⟩:=N.a j (h _ (af _ hj));rw[hu2]at e
    have e:u2=u:=e;have:=N.inj j (h _ (af _ hj)) w.1 (h _ aj) (by rw[hu2,hu,e])
    exact nd1 (this▸hj)
  .exact Jg N (rs:=rs) (λi hi=>h i (af _ hi)) nd2 r hr v hv
theorem Gn:∀{cs:List (Nat×V8)},(cs.map (·.1)).Nodup->∀{a b:Nat×V8},a∈cs->b∈cs->a.1=b.1->a=b
 |c::cs,nd,a,b,ha,hb,e=>by
  obtain⟨n1,n2⟩:=cD.mp nd;rcases aF.mp ha with rfl|ha2
  .rcases aF.mp hb with rfl|jp
   .rfl
   .exact(n1 (bF.mpr ⟨b,jp,e.symm⟩)).elim
  .rcases aF.mp hb with rfl|jp
   .exact(n1 (bF.mpr ⟨a,ha2,e⟩)).elim
   .exact Gn n2 ha2 jp e
theorem be(N:Nn rj ni)(hs:(cs.map (·.1)).Sublist rj)(nd:rj.Nodup)(hS:∀v,v∈S↔∃e∈cs.map λe=>(e.1,pW e.2),M8 ni e v):oM ni (vD how S) (decide (how=1)) cs:=λe he=>by
 have at_:∀e∈cs,e.1∈rj:=λe he=>hs.subset (bF.mpr ⟨e,he,rfl⟩)
 obtain⟨v,hv⟩:=N.a e.1 (at_ e he);refine⟨v,hv,λh2=>?_⟩
 unfold vD;refine congrArg _ ?_;obtain⟨c,w⟩:=e;obtain _|_|_:=w
 .refine decide_eq_false λh=>?_
  obtain⟨e1,h1,w,h3,h4,h5⟩:=(hS v).mp h;obtain⟨e2,h6,rfl⟩:=bF.mp h1;have:=Gn (hs.nodup nd) h6 he (N.inj _ (at_ _ h6) _ (at_ _ he) (h5.trans hv.symm));subst this;obtain _|_|_:=w
  .exact h4 rfl
  all_goals cases h3
 .exact absurd rfl h2
 .exact decide_eq_true ((hS v).mpr ⟨_,oY he,some true,rfl,by decide,hv⟩)
theorem Be{gs:V7}:∀m:Nat,z8 (xO gs) [] m<=qU (gs.take m)
 |0=>bI _
 |m+1=>by
  have:=Be (gs:=gs) m;rw[List.take_add_one,r6];show z8 (xO gs) [] m+(if m∈[]then 0 else xO gs m)<=_
  rw[if_neg (λh=>nomatch h)]
  unfold xO
  induction gs[m]? with
  |none=>exact jV this (bI _)
  |some g=>exact jV this (show g.a.length<=1+g.a.length+0 by exact kQ ja (.a (.a aU ja) fU) [] rfl)
theorem Mg{N:Int->Bool}{fn:PV}:Fp ni N ⟨g1 fn,1,[]⟩ (λi=>i==1)where
 b:=(by decide:1<2)
 a:=λJ h=>nomatch h
 g:= {
  z:=⟨_,rfl,rfl⟩
  d:=λg hg=>by
   rcases aF.mp hg with rfl|hg
   .exact⟨by decide,λh=>absurd h (by decide)⟩
   .rw[aB.mp hg];exact⟨(by decide:(1:Int)≠8),λh=>absurd h (by decide:(1:Int)≠7)⟩
  f:=λx g hx=>by
   obtain _|_|x:=x
   .obtain rfl:=(aq hx:(⟨0,[],.h,.f []⟩:GN)=g);exact⟨λh=>(nomatch h),λJ h=>(nomatch h),λJ h=>(nomatch h),λh=>(nomatch h)⟩
   .obtain rfl:=(aq hx:(⟨1,[],fn,.f []⟩:GN)=g);exact⟨λJ=>rfl,λJ h=>(nomatch h),λJ h=>(nomatch h),λJ=>.inl rfl⟩
   .exact nn hx}

variable{a:S7×S7}{u:Int}{s:St}
def Mp.J(z:Mp)(a:S7×S7)(l:S3):dj:=((z.c' ([.e 27,.h,.h]++l)).set 18 a.1).set 19 a.2
noncomputable abbrev uF:S1:=[0,1,2]
noncomputable def Tq(s u:Int)(f:Fc):Fc:= {f with i:=if s=3 then[(.d u,.d 1)]else f.i}
theorem m19(hs:z.s∈eT)(hu:ni[z.e]?=some u)(ho:f.i=[])(K:mW n 20 (z.J a []) (S4 d X (Tq z.s u f).I rg ni) q):mW n 19 (z.V a) (S4 d X f.I rg ni) q:=by
 obtain⟨w1,w,gk,gp,gn,ge,gx,dr,nr,x,sm,ty,rt,tr,ow,nv,tl⟩:=f;subst ho;have e:∀q:KX,eT.map (λs=>mS n 19 1 (({z with s:=s}:Mp).V a) (S4 d X (Fc.I ⟨w1,w,gk,gp,gn,ge,gx,dr,nr,x,sm,ty,rt,tr,[],nv,tl⟩) rg ni) q)=lK (λs=>if s=3 then ob ni[z.e]? λu=>q .a (({z with s:=s}:Mp).J a []) (S4 d X (Fc.I ⟨w1,w,gk,gp,gn,ge,gx,dr,nr,x,sm,ty,rt,tr,[(.d u,.d 1)],nv,tl⟩) rg ni)else q .a (({z with s:=s}:Mp).J a []) (S4 d X (Fc.I ⟨w1,w,gk,gp,gn,ge,gx,dr,nr,x,sm,ty,rt,tr,[],nv,tl⟩) rg ni)) eT:=λq=>by kernel_rfl
 refine gi 1 (m:=20) (P:=λq=>if z.s=3 then ob ni[z.e]? λu=>q .a (z.J a []) (S4 d X (Fc.I ⟨w1,w,gk,gp,gn,ge,gx,dr,nr,x,sm,ty,rt,tr,[(.d u,.d 1)],nv,tl⟩) rg ni)else q .a (z.J a []) (S4 d X (Fc.I ⟨w1,w,gk,gp,gn,ge,gx,dr,nr,x,sm,ty,rt,tr,[],nv,tl⟩) rg ni)) (λq=>iw (cL (e q) hs)) ?_ rfl
 by_cases h3:z.s=3
 .rw[if_pos h3,hu];unfold Tq at K
  rw[if_pos h3]at K
  exact K
 .rw[if_neg h3];unfold Tq at K
  rw[if_neg h3]at K
  exact K
theorem m20{bv:S3}{y:Bool×Bool}(hs:z.s∈eT)(ht:z.c∈uF)(hb:z.b=.l bi bv)(hc:z.c≠2->∀k:KP,k (.d (jx y)) s->av n 85 [.a z.b,.a (.g (decide (z.c=1)))] s k)(K:mW n 21 (z.J a [.g (decide (z.c=2)||y.1)]) s q):mW n 20 (z.J a []) s q:=by
 have e:∀q:KX,eT.map (λs'=>uF.map λst=>mS n 20 1 (({z with s:=s',c:=st,b:=.l bi bv}:Mp).J a []) s q)=lK (λs'=>lK (λst=>if st=2 then q .a (({z with s:=s',c:=st,b:=.l bi bv}:Mp).J a [.g true]) s else av n 85 [.a (.l bi bv),.a (.g (decide (st=1)))] s λv s=>(jG .a (xr .b (bN v) (bN (.d 1))) (bN (.d 1))) [] s λv s=>q .a (((({z with s:=s',c:=st,b:=.l bi bv}:Mp).J a []).set 20 (some v))) s) uF) eT:=λq=>by kernel_rfl
 rw[hb]at hc
 have ez:z= {z with s:=z.s,c:=z.c,b:=.l bi bv}:=by rw[<-hb]
 rw[ez]at K⊢
 refine gi 1 (m:=21) (P:=λq=>if z.c=2 then q .a (({z with s:=z.s,c:=z.c,b:=.l bi bv}:Mp).J a [.g true]) s else av n 85 [.a (.l bi bv),.a (.g (decide (z.c=1)))] s λv s=>(jG .a (xr .b (bN v) (bN (.d 1))) (bN (.d 1))) [] s λv s=>q .a (((({z with s:=z.s,c:=z.c,b:=.l bi bv}:Mp).J a []).set 20 (some v))) s) (λq=>iw (cL (cL (e q) hs) ht)) ?_ rfl
 by_cases h2:z.c=2
 .rw[if_pos h2];rw[show decide ((⟨z.j,z.i,z.s,z.d,z.c,z.h,z.w,.l bi bv,z.g,z.f,z.e⟩:Mp).c=2)=true from decide_eq_true h2]at K
  exact K
 .rw[if_neg h2];refine hc h2 _ ?_;rw[show decide ((⟨z.j,z.i,z.s,z.d,z.c,z.h,z.w,.l bi bv,z.g,z.f,z.e⟩:Mp).c=2)=false from decide_eq_false h2]at K
  obtain⟨y1,y2⟩:=y
  induction y1<;>induction y2<;>exact K

def nK(rs:WG):S1:=rs.filterMap λr=>r.v.map λv=>eO v.2
abbrev HI(r:Rt):PV:=dz (eO ((r.v.getD (0,0)).2))
theorem T5:∀{rs:WG},(rs.filter λr=>r.v.isSome).map HI=(nK rs).map dz
 |[]=>rfl
 |⟨i,p,none⟩::rs=>T5 (rs:=rs)
 |⟨i,p,some v⟩::rs=>congrArg (dz (eO v.2):: ·) (T5 (rs:=rs))
theorem sO{j:Nat}(hj:j<16):eO j∈i9:=(by decide:∀j<16,eO j∈i9) j hj
abbrev vlE:EV:=jG .f (zZ (bx 35) (bN (.d 0))) (bN (.d 0))
theorem m21{rs:WG}{ae:Bool}(hp:pm[27]?=some (.a (rs.map (jS eO))))(hl:rs.length<50000)(hv:∀r∈rs,∀v,r.v=some v->v.2<16)(K:mW n 22 (z.J a [.g ae,.j ((nK rs).map dz)]) ⟨pm,[]::rg,ni⟩ q):mW n 21 (z.J a [.g ae]) ⟨pm,[]::rg,ni⟩ q:=by
 have e:mS n 21 1=bU (gJ 21 (sI false (vK (bx 35) (.inr [34,35]) (bx 17) vlE))) eG:=rfl;refine gi 1 (m:=22) (P:=λq=>mS n 21 1 (z.J a [.g ae]) ⟨pm,[]::rg,ni⟩ q) (λq=>rfl) ?_ rfl
 rw[e];have hL:(pm[27]?.bind ah.J)=some (rs.map (jS eO)):=by rw[hp];rfl
 have hi:iC (.b (.a (.e 27))) ⟨pm,[]::rg,ni⟩=rs.length:=by show(((pm[27]?).bind ah.J).getD []).length=_;rw[hL];exact ao ..
 refine cG (o:=(pm[27]?.bind ah.J).map λJ=>It.b (.a (.e 27))) (a:=.b (.a (.e 27))) (by rw[hL];rfl) ?_
 refine dP (p:=iC (.b (.a (.e 27))) ⟨pm,[]::rg,ni⟩<=100000) (by rw[hi];exact kQ ja aX [.b ja aI] rfl hl) ?_
 rw[hi];refine Te (f:=jS eO) (g:=HI) (λr=>r.v.isSome) (vs:=rs) (S:=⟨pm,[]::rg,ni⟩) (λj=>by show(pm[27]?.bind ah.J).map _=_;rw[hL];rfl) rfl ?_ λr hr q hq=>?_
 .rw[T5];exact K
 .obtain⟨i,p,v⟩:=r
  induction v with
  |none=>exact hq
  |some v=>
   have:0<=eO v.2:=(by decide:∀v∈i9,0<=v) _ (sO (hv _ hr v rfl))
   exact kL (decide_eq_true this) hq
theorem m22{rs:S3}{ae:Bool}(hs:z.s∈eT)(hp:pm[27]?=some (.a rs))(K:mW n 23 (z.J a [.g ae,.j (ts.map dz),.g (ae||decide (ts.length<rs.length))]) ⟨pm,[]::rg,ni⟩ q):mW n 22 (z.J a [.g ae,.j (ts.map dz)]) ⟨pm,[]::rg,ni⟩ q:=by
 have e:∀q:KX,eT.map (λs'=>B2.map λae=>mS n 22 1 (({z with s:=s'}:Mp).J a [.g ae,.j (ts.map dz)]) ⟨pm,[]::rg,ni⟩ q)=lK (λs'=>lK (λae=>if ae then q .a (({z with s:=s'}:Mp).J a [.g ae,.j (ts.map dz),.g true]) ⟨pm,[]::rg,ni⟩else ob (pm[27]?.bind ah.J) λvs=>q .a (({z with s:=s'}:Mp).J a [.g ae,.j (ts.map dz),.g (decide (((ts.map dz).length:Int)<(vs.length:Int)))]) ⟨pm,[]::rg,ni⟩) B2) eT:=λq=>by kernel_rfl
 refine gi 1 (m:=23) (P:=λq=>if ae then q .a (z.J a [.g ae,.j (ts.map dz),.g true]) ⟨pm,[]::rg,ni⟩else ob (pm[27]?.bind ah.J) λvs=>q .a (z.J a [.g ae,.j (ts.map dz),.g (decide (((ts.map dz).length:Int)<(vs.length:Int)))]) ⟨pm,[]::rg,ni⟩) (λq=>iw (cL (cL (e q) hs) (by induction ae<;>decide))) ?_ rfl
 induction ae with
 |true=>exact K
 |false=>
  rw[hp];have e3:decide (((ts.map dz).length:Int)<(rs.length:Int))=(false||decide (ts.length<rs.length)):=by rw[ao,se];exact decide_eq_decide.mpr dK
  rw[<-e3]at K
  exact K
theorem hV{l0 l1 l2:PV}(K:av n 86 [.a l1,.a l2,.a (t2 z.h (fR z.h))] s λv s=>mW n 24 (z.J a [l0,l1,l2,v]) s q):mW n 23 (z.J a [l0,l1,l2]) s q:=gi 1 (m:=24) (P:=λq=>av n 86 [.a l1,.a l2,.a (t2 z.h (fR z.h))] s λv s=>q .a (z.J a [l0,l1,l2,v]) s) (λq=>by kernel_rfl) K rfl
abbrev tn:S1:=4::eT
def jN(s h:Int)(ts:S1)(bl:Bool)(v:PV):PV:=if s=5\/s=6 then t2 3 512 else if ts=[]then(if !bl&&(s=1||s=2)then t2 2 0 else t2 (if h=4 then 4 else 3) 0)else v
theorem m24{ae:Bool}{bv:S3}(hs:z.s∈tn)(hh:z.h∈dG)(hb:z.b=.l bi bv)(K:mW n 25 (z.J a [.g ae,.j (ts.map dz),.g bl,jN z.s z.h ts bl v]) s q):mW n 24 (z.J a [.g ae,.j (ts.map dz),.g bl,v]) s q:=by
 have ez:z= {z with s:=z.s,h:=z.h,b:=.l bi bv}:=by rw[<-hb]
 rw[ez]at K⊢
 induction ts using aQ with
 |nil=>
  have e:∀q:KX,tn.map (λs'=>dG.map λh=>B2.map λbl=>mS n 24 1 (({z with s:=s',h:=h,b:=.l bi bv}:Mp).J a [.g ae,.j [],.g bl,v]) s q)=lK (λs'=>lK (λh=>lK (λbl=>q .a (({z with s:=s',h:=h,b:=.l bi bv}:Mp).J a [.g ae,.j [],.g bl,jN s' h [] bl v]) s) B2) dG) tn:=λq=>by kernel_rfl
  exact gi 1 (m:=25) (P:=λq=>q .a (({z with s:=z.s,h:=z.h,b:=.l bi bv}:Mp).J a [.g ae,.j [],.g bl,jN z.s z.h [] bl v]) s) (λq=>iw (cL (cL (cL (e q) hs) hh) (by induction bl<;>decide))) K rfl
 |cons t0 ts=>
  have e:∀q:KX,tn.map (λs'=>dG.map λh=>B2.map λbl=>mS n 24 1 (({z with s:=s',h:=h,b:=.l bi bv}:Mp).J a [.g ae,.j ((t0::ts).map dz),.g bl,v]) s q)=lK (λs'=>lK (λh=>lK (λbl=>q .a (({z with s:=s',h:=h,b:=.l bi bv}:Mp).J a [.g ae,.j ((t0::ts).map dz),.g bl,if s'=5\/s'=6 then t2 3 512 else v]) s) B2) dG) tn:=λq=>by kernel_rfl
  refine gi 1 (m:=25) (P:=λq=>q .a (({z with s:=z.s,h:=z.h,b:=.l bi bv}:Mp).J a [.g ae,.j ((t0::ts).map dz),.g bl,if z.s=5\/z.s=6 then t2 3 512 else v]) s) (λq=>iw (cL (cL (cL (e q) hs) hh) (by induction bl<;>decide))) ?_ rfl
  unfold jN at K
  rw[if_neg (show¬(t0::ts)=[]fromλh=>nomatch h)]at K
  exact K
theorem hO{l:S3}(hl:l.length=4)(hh:z.h∈dG)(K:av (n+3) 44 [.a (.e 17),.a z.fn,.a (.d (M6 z.h))] (S4 d (mD z.h) f.I rg ni) λv s=>mW (n+3) 26 (z.J a (l++[v])) s q):mW (n+3) 25 (z.J a l) (S4 d [] f.I rg ni) q:=by
 obtain⟨l0,l1,l2,l3,rfl⟩:∃l0 l1 l2 l3,l=[l0,l1,l2,l3]:=match l,hl with
  |[l0,l1,l2,l3],_=>⟨l0,l1,l2,l3,rfl⟩
 have e:∀q:KX,dG.map (λh=>mS (n+3) 25 1 (({z with h:=h}:Mp).J a [l0,l1,l2,l3]) (S4 d [] f.I rg ni) q)=lK (λh=>av (n+3) 44 [.a (.e 17),.a z.fn,.a (.d (M6 h))] (S4 d (mD h) f.I rg ni) λv s=>q .a (({z with h:=h}:Mp).J a [l0,l1,l2,l3,v]) s) dG:=λq=>by kernel_rfl
 exact gi 1 (m:=26) (P:=λq=>av (n+3) 44 [.a (.e 17),.a z.fn,.a (.d (M6 z.h))] (S4 d (mD z.h) f.I rg ni) λv s=>q .a (z.J a [l0,l1,l2,l3,v]) s) (λq=>iw (cL (e q) hh)) K rfl

variable{w0 w1:Int}{a0 a1 a2:PV}{R:S1}
theorem m26(h:0<=w0->y=w0)(K:mW n 27 (z.J a [a0,a1,a2,t2 w0 w1,.d y]) s q):mW n 26 (z.J a [a0,a1,a2,t2 w0 w1,.d y]) s q:=by
 refine gi 1 (m:=27) (P:=λq=>tb (some (decide (w0>=0))) (tb (some (decide (w0>=0))) (q .a (z.J a [a0,a1,a2,t2 w0 w1,.d y]) s) False) (tb (some (y != w0)) (q .a (z.J a [a0,a1,a2,t2 w0 w1,.d y]) s) False)) (λq=>by kernel_rfl) ?_ rfl
 by_cases h0:0<=w0
 .exact kL (decide_eq_true h0) (fW (by rw[h h0];exact bne_self_eq_false _) K)
 .exact fW (decide_eq_false h0) (fW (decide_eq_false h0) K)
abbrev Mp.I(z:Mp)(a:S7×S7)(a0 a1 a2:PV)(w0 w1 y:Int)(sn:PV)(m:Int)(o:S7):dj:=(z.J a [a0,a1,a2,t2 w0 w1,.d y,sn,.d m]).set 27 o
theorem m27(K:av n 78 [.a (.e 1)] s λv s=>mW n 29 (z.I a a0 a1 a2 w0 w1 y v 0 none) s q):mW n 27 (z.J a [a0,a1,a2,t2 w0 w1,.d y]) s q:=gi 2 (m:=29) (P:=λq=>av n 78 [.a (.e 1)] s λv s=>q .a (z.I a a0 a1 a2 w0 w1 y v 0 none) s) (λq=>by kernel_rfl) K rfl
abbrev hH:EV:=Uu (jG .a (zZ (zZ (fT (bx 2) 9) (bx 24)) (bN (.d 0))) (jP 3)) (zZ (zZ (fT (bx 2) 9) (bx 24)) (bN (.d 1))) (NV (bO (bx 24) d9))
def hJ:nP:=(t7.d.I 29).J.I
theorem ZM{sn:PV}{m:Int}{o:S7}(hb:27<=b')(h:nC X y R)(go:∀R',z9 (mB b') R'=z9 (mB b') R->K (.a (.f (R'.map .d))) (S4 d X r rg ni)):hH (z.I a a0 a1 a2 w0 w1 y sn m o) (S4 d X r rg ni) K:=by
 have e:[hH (z.I a a0 a1 a2 w0 w1 y sn m o) (S4 d X r rg ni) K]=[ob (kI (T1++X) y) λv=>nD (.a v) (.a (.d 0)) (S4 d X r rg ni) λv=>ob (DQ (S4 d X r rg ni) v (.a (.d 6))) λb=>tb (some b) (K (.a (.f [.d y])) (S4 d X r rg ni)) (ob (kI (T1++X) y) λv=>nD (.a v) (.a (.d 1)) (S4 d X r rg ni) λv=>K v (S4 d X r rg ni))]:=by kernel_rfl
 rw[jI e];rcases h.2 with⟨rfl,rfl⟩|h|⟨rfl,c,t,h,hc⟩
 .refine go [2] ?_;show mB b' 2|||0=0;unfold mB;rw[if_neg (by exactλe'=>Xq [.a jD ja,.e iH ja] rfl hb e')];rfl
 .rw[h];exact go R rfl
 .rw[h];refine fW (beq_eq_false_iff_ne.mpr hc) ?_;exact go [y] rfl
abbrev N5(d:ah)(X:S3)(f:Fc)(b:Bool)(c0 c1:ah)(D:S8)(rg:V5)(ni:S1):St:=S4 d X (kr f (qw b c0 c1++[.e false D])).I rg ni
theorem JU{m:Int->Nat}:∀{l:S1}{t:Nat},l.foldl (λt v=>t|||m v) t=t|||z9 m l
 |[],t=>(Nat.or_zero t).symm
 |v::l,t=>by rw[jo,JU];exact Nat.or_assoc ..
theorem m29{b:Bool}(hb:27<=b')(h:nC X y R)(K:∀o,mW n 30 (z.I a a0 a1 a2 w0 w1 y (.e (xW b)) (z9 (mB b') R:Nat) o) (N5 d X f b c0 c1 (cY (.d b') (.d 1024) z7) rg ni) q):mW n 29 (z.I a a0 a1 a2 w0 w1 y (.e (xW b)) 0 none) (N5 d X f b c0 c1 (cY (.d b') (.d 1024) z7) rg ni) q:=by
 have e:mS n 29 1=bU (BU (.inl 27) (DL hH) (ay (mM n) hJ)) eG:=rfl;refine gi 1 (m:=30) (P:=λq=>mS n 29 1 (z.I a a0 a1 a2 w0 w1 y (.e (xW b)) 0 none) (N5 d X f b c0 c1 (cY (.d b') (.d 1024) z7) rg ni) q) (λq=>rfl) ?_ rfl
 rw[e];refine ZM (b':=b') hb h λR' hR=>?_
 show forLoop (.inl 27) (.a (R'.map .d)) (ay (mM n) hJ) ((R'.map PV.d).length+1) 0 (z.I a a0 a1 a2 w0 w1 y (.e (xW b)) ((0:Nat):Int) none) (N5 d X f b c0 c1 (cY (.d b') (.d 1024) z7) rg ni) λfl loc s=>fb fl (eG loc s (mQ n 30 q)) (mQ n 30 q fl loc s)
 refine k8 (it:=.a (R'.map .d)) (⟨λo m=>z.I a a0 a1 a2 w0 w1 y (.e (xW b)) (m:Nat) o,λJ=>N5 d X f b c0 c1 (cY (.d b') (.d 1024) z7) rg ni,λJ J=>True⟩:Fo (S7) Nat) (λm v=>m|||mB b' v) (f:=PV.d) (vs:=R') (x:=0) (a:=none) (λJ J=>rfl) (ao ..) trivial (λJ o=>?_) λm o t v hv J=>⟨trivial,λq hq=>?_⟩
 .rw[JU,hR,Nat.zero_or];exact K o
 .have e:B2.map (λb=>eU (.inl 27) (.a (.d v)) (z.I a a0 a1 a2 w0 w1 y (.e (xW b)) (t:Nat) o) λloc=>ay (mM n) hJ loc (N5 d X f b c0 c1 (cY (.d b') (.d 1024) z7) rg ni) q)=lK (λb=>ib ((bA (.d v) (cY (.d b') (.d 1024) z7)).getD (.d 8192)) λj=>q .a (z.I a a0 a1 a2 w0 w1 y (.e (xW b)) (Builtin.bitOr (t:Nat) j) (some (.a (.d v)))) (N5 d X f b c0 c1 (cY (.d b') (.d 1024) z7) rg ni)) B2:=by kernel_rfl
  have e2:=cL e (x:=b) (by induction b<;>decide)
  rw[e2,Ho];have:=hq (some (.a (.d v)));show q .a (z.I a a0 a1 a2 w0 w1 y (.e (xW b)) (Builtin.bitOr (t:Nat) (mB b' v:Nat)) (some (.a (.d v)))) _;rw[JT];exact this
theorem m30{sn:PV}{m:Int}{o:S7}{tl:V6}(hd:f.b=[])(hn:f.c=[])(h:w0<0->m=w1)(K:mW n 31 (z.I a a0 a1 a2 w0 w1 y sn m o) (S4 d X (kr f tl).I ([]::rg) ni) q):mW n 30 (z.I a a0 a1 a2 w0 w1 y sn m o) (S4 d X (kr f tl).I ([]::rg) ni) q:=by
 obtain⟨f1,f2,gk,gp,gn,ge,gx,dr,nr,x,sm,ty,rt,tr,ow,nv,Fg⟩:=f;subst hd hn;refine gi 1 (m:=31) (P:=λq=>tb (some (decide (w0<0))) (tb (some (decide (w0<0))) (q .a (z.I a a0 a1 a2 w0 w1 y sn m o) (S4 d X (kr ⟨f1,f2,gk,gp,gn,ge,gx,[],[],x,sm,ty,rt,tr,ow,nv,Fg⟩ tl).I ([]::rg) ni)) (tb (some (decide (w0<0))) (q .a (z.I a a0 a1 a2 w0 w1 y sn m o) (S4 d X (kr ⟨f1,f2,gk,gp,gn,ge,gx,[],[],x,sm,ty,rt,tr,ow,nv,Fg⟩ tl).I ([]::rg) ni)) False)) (tb (some (m != w1)) (q .a (z.I a a0 a1 a2 w0 w1 y sn m o) (S4 d X (kr ⟨f1,f2,gk,gp,gn,ge,gx,[],[],x,sm,ty,rt,tr,ow,nv,Fg⟩ tl).I ([]::rg) ni)) (tb (some (m != w1)) (q .a (z.I a a0 a1 a2 w0 w1 y sn m o) (S4 d X (kr ⟨f1,f2,gk,gp,gn,ge,gx,[],[],x,sm,ty,rt,tr,ow,nv,Fg⟩ tl).I ([]::rg) ni)) False))) (λq=>by kernel_rfl) ?_ rfl
 by_cases h0:w0<0
 .exact kL (decide_eq_true h0) (fW (by rw[h h0];exact bne_self_eq_false _) K)
 .exact fW (decide_eq_false h0) (fW (decide_eq_false h0) K)
theorem m31{sn:PV}{m:Int}{o:S7}{bv:S3}(hb:z.b=.l bi bv)(K:mW n 32 (z.I a a0 a1 a2 w0 w1 y sn m o) s q):mW n 31 (z.I a a0 a1 a2 w0 w1 y sn m o) s q:=by
 have ez:z= {z with b:=.l bi bv}:=by rw[<-hb]
 rw[ez]at K⊢
 exact gi 1 (m:=32) (P:=λq=>q .a (({z with b:=.l bi bv}:Mp).I a a0 a1 a2 w0 w1 y sn m o) s) (λq=>by kernel_rfl) K rfl

section
variable{n:Nat}{d c0 c1 sn:ah}{X:S3}{rg:V5}{ni:S1}{q:KX}{z:Mp}{f:Fc}{s:St}{L:dj}{b g:Bool}{w wr vd st dp:Int}{D:aai}{N:S3}
theorem Mh{ι σ α:Type}{tgt:Nat ⊕ S5}{it:It}{b:XV}{k:KX}{f:α->PV}{vs:List α}(F:ι->σ->dj)(S:σ->St)(P:List α->σ->Prop)(g:σ->α->σ)(tZ:∀x j,mw it j (S x)=some (vs.map f)[j]?)
  (hb:∀v r a x,P (v::r) x->P r (g x v)/\∀q:KX,(∀a,q .a (F a (g x v)) (S (g x v)))->eU tgt (.a (f v)) (F a x) λloc=>b loc (S x) q)(r:List α):
  ∀p:List α,vs=p++r->∀a x,P r x->(∀a,k .a (F a (r.foldl g x)) (S (r.foldl g x)))->forLoop tgt it b (r.length+1) p.length (F a x) (S x) k:=by
 induction r with
 |nil=>exactλp e a x h K=>cG (tZ _ _) (w7 (by rw[e];simp) (K a))
 |cons v r ih=>
  intro p e a x h K;obtain⟨h1,h2⟩:=hb v r a x h;refine cG (tZ _ _) (uh (a:=f v) (by rw[e];simp) (h2 _ λa=>?_))
  have:=ih (p++[v]) (by rw[e];simp) a (g x v) h1 K
  rwa [aa]at this
noncomputable def rM(z:Mp):Int:=if z.d then z.w else z.h
noncomputable def oX(z:Mp):Int:=if z.d then 1 else 0
noncomputable def AW(z:Mp):Int:=if z.s=5 then 1 else 0
abbrev Mp.O(z:Mp)(L:dj)(b:Bool)(a:S7×S7):dj:=((L.set 28 (some (.a (.e (fi b))))).set 18 a.1).set 29 a.2
section
variable{a a':S7×S7}{a0 a1 a2 sp:PV}{w0 w1 y m:Int}{o:S7}
theorem m32(hs:z.s∈tn)(hrt:f.h=[])(K:mW (n+2) 35 (z.O (z.I a a0 a1 a2 w0 w1 y sp m o) b (a.1,none)) (S4 d X (kr {f with h:=[.e (fi b)]} (qw b c0 c1++[sn,Nf (rM z) (oX z) 0 (AW z)])).I ([]::rg) ni) q):mW (n+2) 32 (z.I a a0 a1 a2 w0 w1 y sp m o) (S4 d X (kr f (qw b c0 c1++[sn])).I ([]::rg) ni) q:=by
 obtain⟨f1,f2,gk,gp,gn,ge,gx,dr,nr,x,sm,ty,rt,tr,ow,nv,Fg⟩:=f;subst hrt;have e:∀q:KX,tn.map (λs'=>B2.map λwb=>B2.map λb=>mS (n+2) 32 3 (({z with s:=s',d:=wb}:Mp).I a a0 a1 a2 w0 w1 y sp m o) (S4 d X (kr ⟨f1,f2,gk,gp,gn,ge,gx,dr,nr,x,sm,ty,[],tr,ow,nv,Fg⟩ (qw b c0 c1++[sn])).I ([]::rg) ni) q)=lK (λs'=>lK (λwb=>lK (λb=>q .a (z.O (({z with s:=s',d:=wb}:Mp).I a a0 a1 a2 w0 w1 y sp m o) b (a.1,none)) (S4 d X (kr ⟨f1,f2,gk,gp,gn,ge,gx,dr,nr,x,sm,ty,[.e (fi b)],tr,ow,nv,Fg⟩ (qw b c0 c1++[sn,Nf (rM {z with s:=s',d:=wb}) (oX {z with s:=s',d:=wb}) 0 (AW {z with s:=s',d:=wb})])).I ([]::rg) ni)) B2) B2) tn:=λq=>by kernel_rfl
 have B:∀x:Bool,x∈B2:=by decide
 exact gi 3 (m:=35) (P:=λq=>q .a (z.O (z.I a a0 a1 a2 w0 w1 y sp m o) b (a.1,none)) (S4 d X (kr ⟨f1,f2,gk,gp,gn,ge,gx,dr,nr,x,sm,ty,[.e (fi b)],tr,ow,nv,Fg⟩ (qw b c0 c1++[sn,Nf (rM z) (oX z) 0 (AW z)])).I ([]::rg) ni)) (λq=>iw (cL (cL (cL (e q) hs) (B _)) (B _))) K rfl
def To:nP:=(t7.d.I 35).J.I
theorem m35{rs:WG}(hs:z.s∈eT)(hc:c0=.a (rs.map (jS eO)))(K:forLoop (.inr [18,29]) (.b (.a (.e 27))) (ay (mM n) To) (rs.length+1) 0 (z.O (z.I a a0 a1 a2 w0 w1 y sp m o) b a') (S4 d X (FS f c0 c1 sn g b w wr st D N vd dp).I rg ni) λfl loc s=>fb fl (mW n 36 loc s q) (mQ n 36 q fl loc s)):mW n 35 (z.O (z.I a a0 a1 a2 w0 w1 y sp m o) b a') (S4 d X (FS f c0 c1 sn g b w wr st D N vd dp).I rg ni) q:=by
 subst hc;have e:∀q:KX,eT.map (λs'=>B2.map λb=>mS n 35 1 (z.O (({z with s:=s'}:Mp).I a a0 a1 a2 w0 w1 y sp m o) b a') (S4 d X (FS f (.a (rs.map (jS eO))) c1 sn g b w wr st D N vd dp).I rg ni) q)=lK (λs'=>lK (λb=>forLoop (.inr [18,29]) (.b (.a (.e 27))) (ay (mM n) To) ((rs.map (jS eO)).length+1) 0 (z.O (({z with s:=s'}:Mp).I a a0 a1 a2 w0 w1 y sp m o) b a') (S4 d X (FS f (.a (rs.map (jS eO))) c1 sn g b w wr st D N vd dp).I rg ni) λfl loc s=>fb fl (q .a loc s) (q fl loc s)) B2) eT:=λq=>by kernel_rfl
 have B:∀x:Bool,x∈B2:=by decide
 refine gi 1 (m:=36) (P:=λq=>forLoop (.inr [18,29]) (.b (.a (.e 27))) (ay (mM n) To) ((rs.map (jS eO)).length+1) 0 (z.O (z.I a a0 a1 a2 w0 w1 y sp m o) b a') (S4 d X (FS f (.a (rs.map (jS eO))) c1 sn g b w wr st D N vd dp).I rg ni) λfl loc s=>fb fl (q .a loc s) (q fl loc s)) (λq=>iw (cL (cL (e q) hs) (B _))) ?_ rfl
 rw[ao];exact K
end
end

variable{L:dj}{b:Bool}{dp:Int}{a':S7×S7}{sp:PV}{m:Int}{o:S7}
structure XD(ni:S1)(c:S8)(l:WG)(zz:Rz×Int):Prop where
 f:∀r l',l=r::l'->uu zz.1 l.length r.p
 d:l.Pairwise λa b=>a.p+2<=b.p
 g:∀r∈l,∃u,ni[r.i]?=some u
 v:∀r∈l,∀v,r.v=some v->v.2<16
 c:IQ ni c eO l
abbrev d6(w wr st:Int)(zz:Rz×Int)(r:Rt):Rz×Int:=(zz.1.I w wr st r.p (r.v.map λx=>eO x.2),1)
theorem XD.I{ty:S8}{r:Rt}{l:WG}{zz:Rz×Int}(h:XD ni ty (r::l) zz):XD ni ty l (d6 w wr st zz r):=
 ⟨λr' l' e=>by
  have h1:=(h.f r l rfl).I (w:=w) (wr:=wr) (st:=st) (o:=r.v.map λx=>eO x.2)
  have h2:=(i7.mp h.d).1 r' (e▸aj);exact⟨h1.X,h1.D,h1.N,λe he=>Int.lt_of_lt_of_le (h1.a e he) h2⟩,(i7.mp h.d).2,λr hr=>h.g r (af _ hr),λr hr=>h.v r (af _ hr),λr hr=>h.c r (af _ hr)⟩
theorem FH:∀{rs:WG}{zz:Rz×Int},rs.foldl (d6 w wr st) zz=(j6 eO w wr st zz.1 rs,if rs.length=0 then zz.2 else 1)
 |[],zz=>rfl
 |r::rs,zz=>by rw[jo,FH];exact Prod.ext rfl (ite_self _)
abbrev Tj(d:ah)(f:Fc)(c0 c1 sn:ah)(g b:Bool)(w wr st:Int)(rg:V5)(ni:S1)(zz:Rz×Int):St:=S4 d zz.1.X (FS f c0 c1 sn g b w wr st zz.1.D zz.1.N zz.2 0).I ([]::rg) ni
theorem wf{k:KX}(hw:wr=0\/(wr=1/\st=0/\w∈cK))(Xr:st∈[(0:Int),1])(hc:c0=.a (rs.map (jS eO)))(h:XD ni f.a rs (⟨X,[],[]⟩,0))(K:∀a',k .a (z.O (z.I a a0 a1 a2 w0 w1 y sp m o) b a') (Tj d f c0 c1 sn g b w wr st rg ni (j6 eO w wr st ⟨X,[],[]⟩ rs,if rs.length=0 then 0 else 1))):
  forLoop (.inr [18,29]) (.b (.a (.e 27))) (ay (mM (n+14)) To) (rs.length+1) 0 (z.O (z.I a a0 a1 a2 w0 w1 y sp m o) b a') (S4 d X (FS f c0 c1 sn g b w wr st [] [] 0 0).I ([]::rg) ni) k:=by
 refine Mh (f:=jS eO) (vs:=rs) (λa' J=>z.O (z.I a a0 a1 a2 w0 w1 y sp m o) b a') (Tj d f c0 c1 sn g b w wr st rg ni) (XD ni f.a) (d6 w wr st) (λzz j=>?_) (λr l a' zz H=>⟨H.I,λq hq=>?_⟩) rs [] rfl a' (⟨X,[],[]⟩,0) h λa'=>?_
 .subst hc;induction b<;>rfl
 .obtain⟨i,p,v⟩:=r;obtain⟨u,hu⟩:=H.g _ aj;have R:=H.f _ l rfl;obtain⟨zz,vd⟩:=zz
  induction v with
  |none=>
   have e:[eU (.inr [18,29]) (.a (jS eO ⟨i,p,none⟩)) (z.O (z.I a a0 a1 a2 w0 w1 y sp m o) b a') λloc=>ay (mM (n+14)) To loc (Tj d f c0 c1 sn g b w wr st rg ni (zz,vd)) q]=[av (n+14) 61 [.a (.e 17),.a (lq i p .h)] (Tj d f c0 c1 sn g b w wr st rg ni (zz,vd)) λJ s=>q .a (z.O (z.I a a0 a1 a2 w0 w1 y sp m o) b (some (.a (lq i p .h)),some (.a Eo))) s]:=by kernel_rfl
   rw[jI e];exact Vh (hw.imp id λh=>⟨h.1,h.2.2⟩) hu R (hq _)
  |some v=>
   have e:[eU (.inr [18,29]) (.a (jS eO ⟨i,p,some v⟩)) (z.O (z.I a a0 a1 a2 w0 w1 y sp m o) b a') λloc=>ay (mM (n+14)) To loc (Tj d f c0 c1 sn g b w wr st rg ni (zz,vd)) q]=[av (n+14) 61 [.a (.e 17),.a (lq i p (gO v.1 (p+1)))] (Tj d f c0 c1 sn g b w wr st rg ni (zz,vd)) λJ s=>q .a (z.O (z.I a a0 a1 a2 w0 w1 y sp m o) b (some (.a (lq i p (gO v.1 (p+1)))),some (.a (dz (eO v.2))))) s]:=by kernel_rfl
   rw[jI e];obtain⟨u2,h2,h3⟩:=H.c _ aj v rfl;exact Vg (n:=n+2) hw Xr hu h2 (sO (H.v _ aj v rfl)) h3 R (hq _)
 .rw[FH];exact K a'
noncomputable def wZ(f:Fc):Fc:= {f with x:= {f.x with e:=.j [.d 3],d:=.j [.d 1]}}
theorem m36(K:mW n 39 (z.O (z.I a a0 a1 a2 w0 w1 y sp m o) b a') (S4 d X (n7 (FS (wZ f) c0 c1 sn g b w wr st D N vd dp)).I ([]::rg) ni) q):mW n 36 (z.O (z.I a a0 a1 a2 w0 w1 y sp m o) b a') (S4 d X (FS f c0 c1 sn g b w wr st D N vd dp).I ([]::rg) ni) q:=by
 have e:∀q:KX,B2.map (λb=>mS n 36 3 (z.O (z.I a a0 a1 a2 w0 w1 y sp m o) b a') (S4 d X (FS f c0 c1 sn g b w wr st D N vd dp).I ([]::rg) ni) q)=lK (λb=>q .a (z.O (z.I a a0 a1 a2 w0 w1 y sp m o) b a') (S4 d X (n7 (FS (wZ f) c0 c1 sn g b w wr st D N vd dp)).I ([]::rg) ni)) B2:=λq=>by kernel_rfl
 exact gi 3 (m:=39) (P:=λq=>q .a (z.O (z.I a a0 a1 a2 w0 w1 y sp m o) b a') (S4 d X (n7 (FS (wZ f) c0 c1 sn g b w wr st D N vd dp)).I ([]::rg) ni)) (λq=>iw (cL (e q) (by induction b<;>decide))) K rfl
theorem m39(K:av n 47 [.a (.e 17),.a z.fn,.a (.e (fi b))] s λJ s=>mW n 40 (z.O (z.I a a0 a1 a2 w0 w1 y sp m o) b a') s q):mW n 39 (z.O (z.I a a0 a1 a2 w0 w1 y sp m o) b a') s q:=gi 1 (m:=40) (P:=λq=>av n 47 [.a (.e 17),.a z.fn,.a (.e (fi b))] s λJ s=>q .a (z.O (z.I a a0 a1 a2 w0 w1 y sp m o) b a') s) (λq=>by kernel_rfl) K rfl
theorem m40(K:av n 88 [.a (.e 27),.a (iX z.w),.a (.d z.s),.a (.g z.d),.a a0] s λv s=>eU (.inr [30,31]) (.a v) (z.O (z.I a a0 a1 a2 w0 w1 y sp m o) b a') λloc=>mW n 41 loc s q):mW n 40 (z.O (z.I a a0 a1 a2 w0 w1 y sp m o) b a') s q:=gi 1 (m:=41) (P:=λq=>av n 88 [.a (.e 27),.a (iX z.w),.a (.d z.s),.a (.g z.d),.a a0] s λv s=>eU (.inr [30,31]) (.a v) (z.O (z.I a a0 a1 a2 w0 w1 y sp m o) b a') λloc=>q .a loc s) (λq=>by kernel_rfl) K rfl

theorem Gs{A:S3}{u:MV}(hA:A.all (bQ 3)=true)(hu:iI s u=some A):CB s u (.a (.j A))=some true:=by
 unfold CB;rw[hu,show iI s (.a (.j A))=some A from rfl]
 show(if A.all (bQ 3)&&A.all (bQ 3)then(if A.length=A.length then sH A A else some false)else none)=some true
 rw[hA,if_pos (show(true&&true)=true from rfl),if_pos rfl]
 exact wI 4 (x:=.f A) hA
theorem ZB(hD:D.length<90000)(K:mW n 42 ((((z.O (z.I a a0 a1 a2 w0 w1 y sp m o) b a').set 30 (some (.a (.j F)))).set 31 (some (.a (.j M)))).set 32 (some (.a (.j (D.map sZ))))) (S4 d X (n7 (FS f c0 c1 sn g b w wr st D N vd dp)).I ([]::rg) ni) q):
  mW n 41 (((z.O (z.I a a0 a1 a2 w0 w1 y sp m o) b a').set 30 (some (.a (.j F)))).set 31 (some (.a (.j M)))) (S4 d X (n7 (FS f c0 c1 sn g b w wr st D N vd dp)).I ([]::rg) ni) q:=by
 refine gi 1 (m:=42) (P:=λq=>gb (decide ((D.map Dg.I).length<=100000)) (compLoop (.inl 36) (.b (.a (.e 14))) (bN (.g true)) (NV (bO (fT (bx 36) 6) (bO (fT (bx 36) 4) d9))) (gQ (.inl 36) (((z.O (z.I a a0 a1 a2 w0 w1 y sp m o) b a').set 30 (some (.a (.j F)))).set 31 (some (.a (.j M))))) ((D.map Dg.I).length+1) 0 [] (S4 d X (n7 (FS f c0 c1 sn g b w wr st D N vd dp)).I ([]::rg) ni) λxs s=>jT (.a xs) s λv s=>zY false v s λv s=>q .a ((((z.O (z.I a a0 a1 a2 w0 w1 y sp m o) b a').set 30 (some (.a (.j F)))).set 31 (some (.a (.j M)))).set 32 (some v)) s)) (λq=>by kernel_rfl) ?_ rfl
 refine dP (p:=(D.map Dg.I).length<=100000) (by rw[ao];exact Nat.le_of_lt (uK hD (by decide))) ?_
 have e2:∀q:KX,[jT (.a (D.map sZ)) (S4 d X (n7 (FS f c0 c1 sn g b w wr st D N vd dp)).I ([]::rg) ni) λv s=>zY false v s λv s=>q .a ((((z.O (z.I a a0 a1 a2 w0 w1 y sp m o) b a').set 30 (some (.a (.j F)))).set 31 (some (.a (.j M)))).set 32 (some v)) s]=[q .a ((((z.O (z.I a a0 a1 a2 w0 w1 y sp m o) b a').set 30 (some (.a (.j F)))).set 31 (some (.a (.j M)))).set 32 (some (.a (.j (D.map sZ))))) (S4 d X (n7 (FS f c0 c1 sn g b w wr st D N vd dp)).I ([]::rg) ni)]:=λq=>by kernel_rfl
 have K2:=(jI (e2 (mQ n 42 q))).mpr K;refine yV (f:=Dg.I) (g:=sZ) (vs:=D) (λJ=>rfl) (ao ..) K2 λv J q hq=>?_
 have e3:[eU (.inl 36) (.a v.I) (gQ (.inl 36) (((z.O (z.I a a0 a1 a2 w0 w1 y sp m o) b a').set 30 (some (.a (.j F)))).set 31 (some (.a (.j M))))) λloc=>bN (.g true) loc (S4 d X (n7 (FS f c0 c1 sn g b w wr st D N vd dp)).I ([]::rg) ni) λt s=>tb (dB s t) (q [] s) ((NV (bO (fT (bx 36) 6) (bO (fT (bx 36) 4) d9))) loc s λy s=>pb y λy=>q [y] s)]=[q [sZ v] (S4 d X (n7 (FS f c0 c1 sn g b w wr st D N vd dp)).I ([]::rg) ni)]:=by kernel_rfl
 rw[jI e3];exact hq
theorem YP(hF:F.all (bQ 3)=true)(hN:N.all (bQ 3)=true)(go:k (.g true) (S4 d X (n7 (FS (wZ f) c0 c1 sn g b w wr st D N vd dp)).I rg ni)):
  mW n 42 ((((z.O (z.I a a0 a1 a2 w0 w1 y sp m o) b a').set 30 (some (.a (.j F)))).set 31 (some (.a (.j N)))).set 32 (some (.a (.j F)))) (S4 d X (n7 (FS (wZ f) c0 c1 sn g b w wr st D N vd dp)).I ([]::rg) ni) (eF k):=by
 rw[DE];have e:[mR n 42 ((((z.O (z.I a a0 a1 a2 w0 w1 y sp m o) b a').set 30 (some (.a (.j F)))).set 31 (some (.a (.j N)))).set 32 (some (.a (.j F)))) (S4 d X (n7 (FS (wZ f) c0 c1 sn g b w wr st D N vd dp)).I ([]::rg) ni) (eF k)]=[ob (CB (S4 d X (n7 (FS (wZ f) c0 c1 sn g b w wr st D N vd dp)).I ([]::rg) ni) (.a (.j F)) (.a (.j F))) λb1=>tb (some b1) (k (.g b1) (S4 d X (n7 (FS (wZ f) c0 c1 sn g b w wr st D N vd dp)).I rg ni)) (ob (CB (S4 d X (n7 (FS (wZ f) c0 c1 sn g b w wr st D N vd dp)).I ([]::rg) ni) (.a (.e 16)) (.a (.j N))) λb2=>tb (some b2) (k (.g b2) (S4 d X (n7 (FS (wZ f) c0 c1 sn g b w wr st D N vd dp)).I rg ni)) (k (.g true) (S4 d X (n7 (FS (wZ f) c0 c1 sn g b w wr st D N vd dp)).I rg ni)))]:=by kernel_rfl
 rw[jI e];exact cG (o:=CB _ _ _) (Gs hF rfl) (kL rfl (cG (o:=CB _ _ _) (Gs hN rfl) (kL rfl go)))

variable{Y:S3}{s:Int}
theorem vR:∀{rs:WG}{T:S1}{e:Bool},rs.foldl (j5 eO) (T,e)=(T++nK rs,e||decide ((nK rs).length<rs.length))
 |[],T,e=>by show(T,e)=(T++[],e||false);rw[az,d7]
 |⟨i,p,none⟩::rs,T,e=>by have le:(nK rs).length<=rs.length:=r8 ..;show rs.foldl (j5 eO) (T,true)=(T++nK rs,e||decide ((nK rs).length<rs.length+1));rw[vR,decide_eq_true (Nat.lt_succ_of_le le),Bool.or_true];rfl
 |⟨i,p,some v⟩::rs,T,e=>by show rs.foldl (j5 eO) (T++[eO v.2],e)=(T++eO v.2::nK rs,e||decide ((nK rs).length+1<rs.length+1));rw[vR,aK];refine Prod.ext rfl (congrArg (e|| ·) (decide_eq_decide.mpr Nat.succ_lt_succ_iff.symm))
theorem FD(hv:∀r∈rs,∀v,r.v=some v->v.2<16):∀t∈nK rs,t∈i9:=λt ht=>by obtain⟨r,hr,h2⟩:=List.mem_filterMap.mp ht;obtain⟨v,h3,rfl⟩:=aC.mp h2;exact sO (hv r hr v h3)
structure Np(X:S3)(y:Int)(W:PV)(w0 w1:Int)(R:S1):Prop where
 W:W=t2 w0 w1
 c:0<=w0->y=w0
 a:nC X y R
 b:w0<0->((z9 (mB (cj X gh).1) R:Nat):Int)=w1
theorem rF(hy:y∈[(0:Int),1,3,4]):Np X y (t2 y w1) y w1 [y]where
 W:=rfl
 c:=λJ=>rfl
 a:=by
  have e:[(0:Int),1,3,4].map (λy=>kI (T1++X) y)=lK (λy=>some (.f (.d 1::ds (kI T1 y)))) [(0:Int),1,3,4]:=by kernel_rfl
  exact⟨(by decide:∀y∈[(0:Int),1,3,4],0<=y) y hy,.inr (.inr ⟨rfl,1,_,cL e hy,by decide⟩)⟩
 b:=λh=>absurd h (jW.mpr ((by decide:∀y∈[(0:Int),1,3,4],0<=y) y hy))
theorem ZN:Np X 2 (t2 2 w1) 2 w1 []:=⟨rfl,λJ=>rfl,⟨by decide,.inl ⟨rfl,rfl⟩⟩,λh=>absurd h (by decide)⟩
def IY(h:Int)(ts:S1)(bl:Bool):PV:=if 0∈ts then t2 0 4095 else if 1∈ts then t2 1 4095 else t2 (-1) (oF (iW (xX ts bl)) (fR h))
theorem vz{v:Int}(h4:v≠4):v∈xX ts bl↔v∈ts:=by
 unfold xX;rw[aS];refine⟨λh=>h.elim id λh=>?_,.inl⟩
 induction bl
 .cases h
 .exact absurd (aB.mp h) h4
theorem yi(F:JD X (xX ts bl) h y):∃w0 w1 R,Np X y (IY h ts bl) w0 w1 R:=by
 unfold IY;rcases F with⟨h0,rfl⟩|⟨h0,h1,rfl⟩|⟨hv,R,hP,hm⟩
 .rw[if_pos ((vz (by decide)).mp h0)]
  exact⟨_,_,_,rF (by decide)⟩
 .rw[if_neg λh=>h0 ((vz (by decide)).mpr h),if_pos ((vz (by decide)).mp h1)]
  exact⟨_,_,_,rF (by decide)⟩
 .rw[if_neg λh=>absurd (hv _ ((vz (by decide)).mpr h)) (by decide),if_neg λh=>absurd (hv _ ((vz (by decide)).mpr h)) (by decide)]
  exact⟨_,_,R,rfl,λh=>absurd h (by decide),hP,λJ=>congrArg _ hm⟩
theorem QM(hs:s∈[(0:Int),1,2,3,7]):∃w0 w1 R,Np X (IB (([16,4,32,32,12,160,256,96]:S1)[s.toNat]?.getD 0) (decide (s=3)) bl h) (jN s h [] bl v) w0 w1 R:=by
 have e:IB (([16,4,32,32,12,160,256,96]:S1)[s.toNat]?.getD 0) (decide (s=3)) bl h=(if !bl&&(s=1||s=2)then 2 else if h=4 then 4 else 3)/\jN s h [] bl v=if !bl&&(s=1||s=2)then t2 2 0 else t2 (if h=4 then 4 else 3) 0:=by
  refine⟨?_,?_⟩
  .have e:∀b:Bool,∀s∈[(0:Int),1,2,3,7],(!b&&(!(Builtin.bitAnd (([16,4,32,32,12,160,256,96]:S1)[s.toNat]?.getD 0) 16 != 0)&&(!(Builtin.bitAnd (([16,4,32,32,12,160,256,96]:S1)[s.toNat]?.getD 0) 64 != 0)&& !decide (s=3))))=(!b&&(s=1||s=2)):=by decide+kernel
   unfold IB;rw[e bl s hs]
  .unfold jN;rw[if_neg ((by decide:∀s∈[(0:Int),1,2,3,7],¬(s=5\/s=6)) s hs),if_pos rfl]
 rw[e.1,e.2];split
 .exact⟨_,_,_,ZN⟩
 .refine⟨_,_,_,rF ?_⟩
  split<;>decide
theorem DU(hs:s∈[(0:Int),1,2,3,7])(ht:ts≠[]):jN s h ts bl v=v:=by unfold jN;rw[if_neg ((by decide:∀s∈[(0:Int),1,2,3,7],¬(s=5\/s=6)) s hs),if_neg ht]

variable{m:Bk}{e:Bool}
structure lj(f f':Fc):Prop where
 h:f'.m=f.m
 e:f'.d=f.d
 g:f'.l=f.l
 i:f'.n=f.n
 d:f'.e=f.e
 c:f'.j=f.j
 a:f'.x.a=f.x.a
 b:f'.x.b=f.x.b
noncomputable abbrev Oq(s:Int):Int:=([16,4,32,32,12,160,256,96]:S1)[s.toNat]?.getD 0
structure Bz(z:Mp)(m:Bk)(f:Fc)(ni:S1)(u:Int)(e:Bool)(n:Nat):Prop where
 c:z.s∈eT
 h:z.h∈dG
 p:z.w∈cK
 s:z.g=Oq z.s
 o:∃k1 k2,z.f=[.h,k1,k2,m.I.I]/\(z.d=true->∃i,k2=Fi i)
 j:z.d=true->z.s≠5/\z.s≠6
 q:ni[z.e]?=some u
 x:f.i=if z.s=3 then[(.d u,.d 1)]else[]
 t:m.I.O<40000
 g:m.O.length<=400
 l:IQ ni f.a eO m.O
 v:∀r∈m.O,∀v,r.v=some v->v.2<16
 y:∀r∈m.O,∃u,ni[r.i]?=some u
 w:m.O.Pairwise λa b=>a.p+2<=b.p
 E:∀(f':Fc),lj f f'->∀{d X k rg vs},k (.g e) (S4 d X f'.I rg ni)->av (n+4) 40 [.a (.e 17),.a (.l z.e vs)] (S4 d X f'.I rg ni) k
theorem Zv:dS (.f (iG 23 0)) (mD h)=none:=by
 unfold mD
 split<;>rfl
theorem vt:(mD h).length<=1:=by
 unfold mD;split
 .exact bI _
 .exact aH _
theorem Ma(B:Bz z m f ni u e (n+7))(go:∀(b:Bool)(c1:ah)(y:Int)(Y:S3)(w0 w1:Int)(R:S1),Np (mD z.h++Y) y (jN z.s z.h (nK m.O) (e||decide ((nK m.O).length<m.O.length)) (IY z.h (nK m.O) (e||decide ((nK m.O).length<m.O.length)))) w0 w1 R->Y.length<=4->k (.d y) (S4 d (mD z.h++Y) (kr f (qw b c0 c1)).I rg ni)):
  av (n+14) 44 [.a (.e 17),.a z.fn,.a (.d (M6 z.h))] (S4 d (mD z.h) (Yt c0 f).I rg ni) k:=by
 obtain⟨k1,k2,hk,I4⟩:=B.o;unfold Mp.fn;rw[hk,B.s];by_cases h5:z.s=5\/z.s=6
 .have hf:Oq z.s∈[(160:Int),256]:=h5.elim (λe=>by rw[e];decide) λe=>by rw[e];decide
  refine An (n:=n+12) B.h hf ?_;have:=go false c0 3 [] 3 512 [3] (by unfold jN;rw[if_pos h5];exact rF (by decide)) (bI _)
  rw[az]at this
  exact this
 .have hs:z.s∈[(0:Int),1,2,3,7]:=(by decide:∀s∈eT,¬(s=5\/s=6)->s∈[(0:Int),1,2,3,7]) z.s B.c h5
  have hf:Oq z.s∈[(16:Int),4,32,96]:=(by decide:∀s∈[(0:Int),1,2,3,7],Oq s∈[(16:Int),4,32,96]) z.s hs
  have T:=vR (rs:=m.O) (T:=[]) (e:=e);rw[List.nil_append]at T
  have hv:=FD B.v;have lt:(nK m.O).length<=m.O.length:=r8 ..;refine Ao (n:=n+12) B.h hf (by induction m using Bk.casesOn;exact⟨_,_,rfl⟩) ?_
  refine Rn (n:=n+1) (own:=decide (z.s=3)) (bl:=e) (kd:=eO) B.h B.q (by
   rw[B.x];by_cases h3:z.s=3
   .rw[if_pos h3,decide_eq_true h3];exact congrArg Option.isSome oi
   .rw[if_neg h3,decide_eq_false h3];rfl) Zv (aA vt (by decide)) B.t (bB B.g (by decide)) B.l ?_ ?_ ?_ ?_ ?_
  .rw[T];exact hv
  .rw[T];exact bB (aA lt B.g) (by decide)
  .exactλ{k rg} K=>B.E (wO c0 f []) ⟨rfl,rfl,rfl,rfl,rfl,rfl,rfl,rfl⟩ K
  .rw[T];intro h0;obtain⟨w0,w1,R,M⟩:=QM (X:=mD z.h++[]) (h:=z.h) (bl:=e||decide ((nK m.O).length<m.O.length)) (v:=IY z.h (nK m.O) (e||decide ((nK m.O).length<m.O.length))) hs;have:=go true (.a []) _ [] w0 w1 R (by rw[show nK m.O=[]from h0]at M⊢;exact M) (bI _)
   rw[az]at this
   rw[show nK m.O=[]from h0]
   exact this
  .rw[T];intro h0 f' Y F hY J;obtain⟨w0,w1,R,M⟩:=yi F;exact go true _ f' Y w0 w1 R (by rw[DU hs h0];exact M) hY

structure uk(z:Mp)(m:Bk)(f:Fc)(ni:S1)(u:Int)(e:Bool)(n:Nat):Prop extends Bz z m f ni u e n where
 k:z.c∈uF
 a:z.b=m.I.I
 r:e=(decide (z.c=2)||(m.e' (decide (z.c=1))).1)
 D:m.d'<=6
 B:f.b=[]
 i:f.c=[]
 d:f.h=[]
 b:f.k=qY
 C:f.x.c=0
 A:f.x.a=.h\/f.x.a=.e 6
def Nk(m:Bk)(e:Bool):Bool:=e||decide ((nK m.O).length<m.O.length)
theorem bp(B:uk z m f ni u e (n+7))(hc:c0=.a (m.O.map (jS eO)))
  (go:∀(b:Bool)(c1:ah)(y:Int)(Y:S3)(w0 w1:Int)(R:S1),Np (mD z.h++Y) y (jN z.s z.h (nK m.O) (Nk m e) (IY z.h (nK m.O) (Nk m e))) w0 w1 R->Y.length<=4->mW (n+14) 26 (z.J a [.g e,.j ((nK m.O).map dz),.g (Nk m e),t2 w0 w1,.d y]) (S4 d (mD z.h++Y) (kr f (qw b c0 c1)).I ([]::rg) ni) q):
  mW (n+14) 20 (z.J a []) (S4 d [] (Yt c0 f).I ([]::rg) ni) q:=by
 obtain⟨bi,bv,YZ⟩:∃bi bv,z.b=.l bi bv:=by rw[B.a];induction m using Bk.casesOn;exact⟨_,_,rfl⟩
 refine m20 (y:=m.e' (decide (z.c=1))) B.c B.k YZ (λh2 k K=>?_) ?_
 .rw[B.a];have:=Bk.g' (b:=decide (z.c=1)) m (n:=n+14-m.d') K;rw[iZ (aA B.D (by exact kQ (.n 6) (.a ja (.n 14)) [] rfl))]at this
  exact this
 .rw[<-B.r];have hl:m.O.length<50000:=bB B.g (by decide)
  have tl:(nK m.O).length<=m.O.length:=r8 ..;subst hc;refine m21 rfl hl B.v ?_;refine m22 B.c rfl ?_;rw[ao];refine hV ?_;refine CY (n:=n+12) (FD B.v) (bB tl hl) ?_;refine m24 (af _ B.c) B.h YZ ?_;refine hO (n:=n+11) rfl B.h ?_;refine Ma B.toBz λb c1 y Y w0 w1 R M hY=>?_
  have hW:jN z.s z.h (nK m.O) (Nk m e) (IY z.h (nK m.O) (Nk m e))=t2 w0 w1:=M.W;show mW (n+14) 26 (z.J a [.g e,.j ((nK m.O).map dz),.g (Nk m e),jN z.s z.h (nK m.O) (Nk m e) (IY z.h (nK m.O) (Nk m e)),.d y]) _ q;rw[hW];exact go b c1 y Y w0 w1 R M hY
theorem Jy{W:PV}(hd:f.b=[])(hn:f.c=[])(M:Np X y W w0 w1 R)(hX:X.length<900)(go:∀sn m o,mW (n+14) 31 (z.I a a0 a1 a2 w0 w1 y (.e (xW b)) m o) (S4 d (cj X gh).2 (kr f (qw b c0 c1++[sn])).I ([]::rg) ni) q):
  mW (n+14) 26 (z.J a [a0,a1,a2,t2 w0 w1,.d y]) (S4 d X (kr f (qw b c0 c1)).I ([]::rg) ni) q:=by
 refine m26 M.c ?_;refine m27 ?_;refine U6 (n:=n+11) hX ?_;obtain⟨J,J,p3⟩:=jY (X:=X) (row:=iG 16 0);have hP:nC (cj X gh).2 y R:=by
  rcases(show(cj X gh).2=X\/(cj X gh).2=X++[gh]from p3)with h|h
  .rw[h];exact M.a
  .rw[h];exact M.a.c'
 refine m29 (b':=(cj X gh).1) qm hP λo=>?_
 refine m30 hd hn M.b ?_;exact go _ _ o

variable{w':Int}
structure Gd(y:Rz)(l:Nat):Prop where
 a:∀e∈y.D,e.a=2322\/e.a=2408
 b:y.N.all (bQ 3)=true
 D:y.D.length<=l
theorem Gd.J{y:Rz}{l:Nat}(h:Gd y l){o:aal}:Gd (y.I w wr st p o) (l+2):=by
 have hl:=(FJ (z:=y) (w:=w) (wr:=wr) (st:=st) (p:=p) (o:=o)).1;have sn:∀{D:aai}{num p:Int}{x:PV},(∀e∈D,e.a=2322\/e.a=2408)->num=2322\/num=2408->∀e∈D++[⟨num,p,x⟩],e.a=2322\/e.a=2408:=λh h2 e he=>(aS.mp he).elim (h e) λhe=>aB.mp he▸h2
 have Y8:∀{y:Rz}{v at_:Int},(∀e∈y.D,e.a=2322\/e.a=2408)->y.N.all (bQ 3)=true->(∀e∈(y.J at_ v w).D,e.a=2322\/e.a=2408)/\(y.J at_ v w).N.all (bQ 3)=true:=λ{y v at_} h1 h2=>by
  unfold Rz.J k9 lM;refine⟨?_,?_⟩
  .dsimp only;split
   .exact h1
   .exact sn h1 (.inl rfl)
  .dsimp only;split
   .rw[List.all_append,h2];rfl
   .exact h2
 induction o with
 |none=>
  unfold Rz.I at hl⊢
  dsimp only at hl⊢
  split
  .rw[if_pos ‹_›]at hl
   exact⟨(Y8 h.a h.b).1,(Y8 h.a h.b).2,aA hl (cN h.D 2)⟩
  .exact⟨h.a,h.b,Nat.le_add_right_of_le h.D⟩
 |some v=>
  refine⟨?_,?_,aA hl (cN h.D 2)⟩
  all_goals
   unfold Rz.I;dsimp only;have h1:(∀e∈(if st=1 then {y with D:=y.D++[⟨2408,p,.f []⟩]}else y:Rz).D,e.a=2322\/e.a=2408)/\(if st=1 then {y with D:=y.D++[⟨2408,p,.f []⟩]}else y:Rz).N.all (bQ 3)=true:=by
    split
    .exact⟨sn h.a (.inr rfl),h.b⟩
    .exact⟨h.a,h.b⟩
   generalize (if st=1 then {y with D:=y.D++[⟨2408,p,.f []⟩]}else y:Rz)=y2 at h1
   split
  .exact(Y8 h1.1 h1.2).1
  .exact h1.1
  .exact(Y8 h1.1 h1.2).2
  .exact h1.2
theorem Gd.I:∀{rs:WG}{y:Rz}{l:Nat},Gd y l->Gd (j6 eO w wr st y rs) (l+2*rs.length)
 |[],y,l,h=>h
 |r::rs,y,l,h=>by
  have:=(h.J (w:=w) (wr:=wr) (st:=st) (p:=r.p) (o:=r.v.map λx=>eO x.2)).I (rs:=rs)
  exact⟨this.a,this.b,aA this.D (by show _<=l+2*(rs.length+1);exact mK (.a (.a ja iH) (.m 2 jb)) (.a ja (.m 2 (.a jb aU))) [] rfl)⟩
theorem ZE{y:Rz}{o:aal}:y.I w 0 st p o=y.I w' 0 st p o:=by induction o<;>rfl
theorem JP:∀{rs:WG}{y:Rz},j6 eO w 0 st y rs=j6 eO w' 0 st y rs
 |[],y=>rfl
 |r::rs,y=>by show j6 eO w 0 st (y.I w 0 st r.p _) rs=j6 eO w' 0 st (y.I w' 0 st r.p _) rs;rw[ZE (w':=w'),JP (rs:=rs)]
theorem SN(hd:f.b=[])(hn:f.c=[])(hs:f.k=qY)(hp:f.x.c=0)(hg:f.x.a=if g then .e 6 else .h):kr {f with h:=[.e (fi b)]} (qw b c0 c1++[sn,Nf w wr vd st])=FS f c0 c1 sn g b w wr st [] [] vd 0:=by obtain⟨f1,f2,gk,gp,gn,ge,gx,dr,nr,⟨x1,x2,x3,x4,x5⟩,sm,ty,rt,tr,ow,nv,Fg⟩:=f;subst hd hn hs hp hg;induction b<;>rfl
theorem Dk:∀{D:aai},(D.map sZ).all (bQ 3)=true
 |[]=>rfl
 |e::D=>by rw[dD,List.all_cons,Dk];rfl
theorem QK:(qg w wr vd e D).length<=D.length+1:=by
 unfold qg;split
 .rw[aa];exact aH _
 .exact bL _
theorem bn{mm:Int}(B:uk z m f ni u e (n+7))(hc:c0=.a (m.O.map (jS eO)))(hX:X.length+400<900)(K:∀s,k (.g true) s):
  mW (n+14) 32 (z.I a (.g e) a1 a2 w0 w1 y (.e (xW b)) mm o) (S4 d X (kr f (qw b c0 c1++[sn])).I ([]::rg) ni) (eF k):=by
 obtain⟨g,hg⟩:∃g:Bool,f.x.a=if g then .e 6 else .h:=B.A.elim (λh=>⟨false,h⟩) λh=>⟨true,h⟩
 obtain⟨k1,k2,hk,I4⟩:=B.o;have hw:oX z=0\/(oX z=1/\AW z=0/\rM z∈cK):=by
  have:=B.j;unfold oX AW rM
  induction hb:z.d with
  |false=>exact .inl rfl
  |true=>exact .inr ⟨rfl,if_neg (this hb).1,B.p⟩
 refine m32 (n:=n+12) (af _ B.c) B.d ?_;rw[SN B.B B.i B.b B.C hg];refine m35 B.c hc ?_;have rl:=B.g;refine wf hw (by unfold AW;split<;>decide) hc ⟨λr l' e=>⟨by show X.length+_<900;exact fh (.a ja jb) eH [.b (.a ja oG) eH,.a jb oG] rfl hX rl,by show 0+2*_<80000;exact fJ (.a fU (.m 2 ja)) cC [.s 2 (.a ja oG)] rfl rl,by show 0+_<80000;exact fJ (.a fU ja) cC [.a ja oG] rfl rl,λJ h=>nomatch h⟩,B.w,B.y,B.v,B.l⟩ λa'=>?_
 have G:=Gd.I (w:=rM z) (wr:=oX z) (st:=AW z) (rs:=m.O) (y:=⟨X,[],[]⟩) (l:=0) ⟨λJ h=>(nomatch h),rfl,aH _⟩
 have hN:(j6 eO z.w (oX z) (AW z) ⟨X,[],[]⟩ m.O)=j6 eO (rM z) (oX z) (AW z) ⟨X,[],[]⟩ m.O:=by
  unfold oX rM;induction z.d
  .exact JP
  .rfl
 generalize hy:j6 eO (rM z) (oX z) (AW z) ⟨X,[],[]⟩ m.O=yy at G hN⊢
 refine m36 ?_;refine m39 ?_;obtain⟨c,p,ks,hm⟩:∃c p ks,m.I.I=EU c p ks:=by induction m using Bk.casesOn;exact⟨_,_,_,rfl⟩
 rw[hm]at hk
 unfold Mp.fn;rw[hk,B.s];have hl:yy.D.length<90000:=bB G.D (by exact fJ (.a fU (.m 2 ja)) br [.s 2 (.a ja oG)] rfl rl)
 refine Hq (n:=n+4) (en:=e) ((by decide:∀s∈eT,Oq s∈[(16:Int),4,32,96,160,256]) _ B.c) ((by decide:∀s∈eT,(if s=5 then(1:Int)else 0)=if Oq s=160 then 1 else 0) _ B.c) B.q (hw.imp id λh=>⟨h.1,h.2.2,I4 ?_⟩) (show(if m.O.length=0 then(0:Int)else 1)∈[(0:Int),1]by split<;>decide) G.a hl (λh{k rg} K=>?_) ?_
 .unfold oX at h
  induction hb:z.d with
  |true=>rfl
  |false=>rw[hb]at h;exact absurd h.1 (by decide)
 .exact B.E (FS (vj (wZ f) eL) c0 c1 sn g b (rM z) (oX z) (AW z) yy.D yy.N (if m.O.length=0 then 0 else 1) 0) ⟨rfl,rfl,rfl,rfl,rfl,rfl,hg.symm,rfl⟩ K
 .refine m40 ?_;have hM:∀vd D,qg z.w (oX z) vd e D=qg (rM z) (oX z) vd e D:=λvd D=>by
   unfold oX rM;induction z.d
   .rfl
   .rfl
  refine Mq (n:=n+12) (rs:=m.O) (kd:=eO) (X:=X) (λr hr x hx=>sO (B.v r hr x hx)) B.p B.c rfl rfl (λh5=>?_) (bB B.g (by decide)) (by subst hc;induction b<;>rfl) ?_
  .induction hb:z.d with
   |false=>rfl
   |true=>exact absurd h5 (B.j hb).1
  .rw[show j6 eO z.w (if z.d=true then 1 else 0) (if z.s=5 then 1 else 0) ⟨X,[],[]⟩ m.O=yy from hN,show qg z.w (if z.d=true then 1 else 0) (if m.O.length=0 then 0 else 1) e yy.D=qg (rM z) (oX z) (if m.O.length=0 then 0 else 1) e yy.D from hM _ _]
   refine ZB (bB QK (bB (cA G.D) (by exact fJ (.a (.a fU (.m 2 ja)) aU) br [.s 2 (.a ja oG)] rfl rl))) ?_
   exact YP Dk G.b (K _)

variable{Fj:S1}{gx nv:S8}{gv sv:PV}
theorem DC:∀{n:Nat}{l:S5},l.Nodup->(∀i∈l,i<n)->l.length<=n
 |0,[],_,_=>aH _
 |0,a::l,_,h=>absurd (h a aj) (jn _)
 |n+1,l,nd,h=>by
  by_cases hn:n∈l
  .have:=DC (n:=n) (nd.erase n) λi hi=>by have:=(nd.mem_erase_iff).mp hi;exact i0 (rz (h i this.2)) this.1
   rw[List.length_erase_of_mem hn]at this
   exact Nat.sub_le_iff_le_add.mp this
  .exact dQ (DC nd λi hi=>by exact i0 (rz (h i hi)) λe=>hn (e▸hi))
theorem xN(h4:x%8≠4):((hS x:Nat):Int)∈eT:=(by decide:∀y<8,y≠4->((y:Nat):Int)∈eT) (x%8) (Nat.mod_lt _ (by decide)) h4
theorem DN:((hT x:Nat):Int)∈uF:=(by decide:∀y<3,((y:Nat):Int)∈uF) (x/16%3) (Nat.mod_lt _ (by decide))
abbrev zM(ns:S1)(x:Nat)(h w:Int)(b:PV)(ni:S1):Mp:=⟨.n ns,.d x,(hS x:Nat),hW x,(hT x:Nat),h,w,b,sY x,[.h,(wV ni.length).I,mh x ni,b],(vh x ni).length⟩
abbrev l17(ns:S1)(x:Nat)(h w:Int)(b:PV)(ni:S1):dj:=qZ ns x (t2 h (fR h)) (iX w) [b,.d (sY x),.j [.h,(wV ni.length).I,mh x ni,b],sX x ni b,.e 6,.e 17]
theorem KD(h4:x%8≠4)(hh:h∈dG)(hw:w∈cK)(M:kq m.I.J m.O 0 Fj.length 10 p)(hn:Fj.length<=349)(hd:m.d'<=6)(hu:ni[(vh x Fj).length]?=some u)(N:Nn m.I.J ni)
  (he:e=(decide (((hT x:Nat):Int)=2)||(m.e' (decide (((hT x:Nat):Int)=1))).1))(hgv:gv=.h\/gv=.e 6)
  (E:∀f':Fc,lj (rJ (.a (m.O.map nN)) (.a [.d p,.e 4]) gs gx gv sv qY nv) f'->∀{d X k rg vs},k (.g e) (S4 d X f'.I rg ni)->av (n+11) 40 [.a (.e 17),.a (.l (vh x Fj).length vs)] (S4 d X f'.I rg ni) k)(K:∀s,k (.g true) s):
  mW (n+14) 17 (l17 ns x h w m.I.I Fj) (S4 d [] (rJ (.a (m.O.map nN)) (.a [.d p,.e 4]) gs gx gv sv qY nv).I [[]] ni) (eF k):=by
 have bt:=m.j';have rl:m.O.length<=400:=by have:=M.g;exact mK ja oG [.a jb xM,.a (.a ja fU) jb] rfl hn this
 have il:m.I.J.length<=349:=aA (DC M.f λi hi=>(M.c i hi).2) hn
 have hv:∀r∈m.O,∀v,r.v=some v->v.2<16:=λr hr v hv=>(M.d r hr).2.2 v hv
 have at_:∀r∈m.O,∃u,ni[r.i]?=some u:=λr hr=>N.a _ (bt.k r hr)
 have He:∀i∈Iz m.O,i∈m.I.J:=λi hi=>bt.f.subset hi
 have T:=Sa (ni:=ni) (rs:=m.O) (t:=⟨[],[]⟩);refine m9 (z:=zM ns x h w m.I.I Fj) (f:=rJ (.a (m.O.map nN)) (.a [.d p,.e 4]) gs gx gv sv qY nv) ?_;refine XT (z:=zM ns x h w m.I.I Fj) (f:=rJ (.a (m.O.map nN)) (.a [.d p,.e 4]) gs gx gv sv qY nv) (p:=p) rfl rfl (xN h4) (by exact fJ ja aI [.a ja oG] rfl rl) (λr hr v YT=>⟨hv r hr v YT,N.a _ (He _ (List.mem_filterMap.mpr ⟨r,hr,by rw[YT];rfl⟩))⟩) λa=>?_
 refine m19 (z:=zM ns x h w m.I.I Fj) (xN h4) hu rfl ?_;have TY:=Jg N (rs:=m.O) (t:=⟨[],[]⟩) He (bt.f.nodup M.f);generalize m.O.foldl (Tw.J ni) ⟨[],[]⟩=tw at T TY⊢
 have B:∀n',n'+4=n+11->uk (zM ns x h w m.I.I Fj) m (Tq (hS x:Nat) u (Tw.I (rJ (.a (m.O.map nN)) (.a [.d p,.e 4]) gs gx gv sv qY nv) tw)) ni u e n':=λn' en=>
  {
   c:=xN h4,h:=hh,p:=hw
   s:=(by decide:∀y<8,([16,4,32,32,12,160,256,96]:S1)[y]?.getD 0=Oq ((y:Nat):Int)) (x%8) (Nat.mod_lt _ (by decide))
   o:=⟨_,_,rfl,λhb=>by show∃i,mh x Fj=Fi i;unfold mh;rw[if_pos (show hW x=true from hb)];exact⟨_,rfl⟩⟩
   j:=λhb=>by
    have hb:(decide (x/8%2=1)&&(!decide (x%8=5)&& !decide (x%8=6)))=true:=hb;simp only[bg,mq,decide_eq_false_iff_not]at hb
    exact⟨λe=>hb.2.1 (r9 e),λe=>hb.2.2 (r9 e)⟩
   q:=hu,x:=rfl,t:=by have:=bt.d;exact fh ja jt [.s 4 (.a jb xM),.a ja (.m 4 jb)] rfl il this
   g:=rl,l:=TY,v:=hv,y:=at_,w:=M.k
   E:=λf' g=>by intro d X k rg vs K;rw[en];exact E f' ⟨g.h,g.e,g.g,g.i,g.d,g.c,g.a,g.b⟩ K
   k:=DN,a:=rfl,r:=he,D:=hd,B:=rfl,i:=rfl,d:=rfl,b:=rfl,C:=rfl,A:=hgv}
 refine bp (f:=Tq (hS x:Nat) u (Tw.I (rJ (.a (m.O.map nN)) (.a [.d p,.e 4]) gs gx gv sv qY nv) tw)) (c0:=.a tw.a) (B (n+7) rfl) (congrArg ah.a T) λb c1 y Y w0 w1 R Mt hY=>?_
 obtain⟨bi,bv,YZ⟩:∃bi bv,m.I.I=.l bi bv:=by induction m using Bk.casesOn;exact⟨_,_,rfl⟩
 have hx:(mD h++Y).length<=5:=by rw[aa];exact jV vt hY
 refine Jy (z:=zM ns x h w m.I.I Fj) rfl rfl Mt (by exact fJ ja eH [.a ja TA] rfl hx) λsn mm o=>m31 YZ ?_
 obtain⟨J,J,p3⟩:=jY (X:=mD h++Y) (row:=iG 16 0);refine bn (B (n+7) rfl) (congrArg ah.a T) ?_ K;rcases(show(cj (mD h++Y) gh).2=_\/(cj (mD h++Y) gh).2=_++[gh]from p3)with e|e
 .rw[e];exact fJ (.a ja oG) eH [.a ja TA] rfl hx
 .rw[e,aa];show _+1+400<900;exact fJ (.a (.a ja aU) oG) eH [.a ja TA] rfl hx

variable{b:Bd}
def Y7(x:Nat)(i:Nat)(ks:Ks):Ks:=if hW x then .b (tkT i) ks else .c ks
def Om(x:Nat)(ni:S1)(b:Bd):Tr:=.a (vh x ni).length 27 (.k "f") (sY x) 5 (.c (.b (wV ni.length) (Y7 x (nw ni).length b.I)))
theorem SQ:(Om x ni b).I=sX x ni b.J:=by
 unfold Om sX mh Y7
 induction hW x<;>induction b<;>rfl
theorem Gr:(Om x ni b).J=(vh x ni).length::ni.length::((if hW x then[(nw ni).length]else[])++b.I.V):=by
 unfold Om Y7 Tr.J
 induction hW x<;>rfl
theorem Mi:(Om x ni b).O<=b.I.O+4:=by
 unfold Om Y7
 induction hW x
 .show 0+1+(b.I.O+1)+1+1<=_;exact kQ (.a (.a (.a (.a fU aU) (.a ja aU)) aU) aU) (.a ja qz) [] rfl
 .show 0+1+(0+1+b.I.O)+1+1<=_;exact kQ (.a (.a (.a (.a fU aU) (.a (.a fU aU) ja)) aU) aU) (.a ja qz) [] rfl
theorem Jq(hx:x<192)(hs:b.I.O<40000)(hi:∀i∈b.I.V,i<ni.length)
  (K:∀jR u,jR[(vh x ni).length]?=some u->Nn b.I.V jR->av (n+8) 89 [.a (.e 1),.a (if x%8=4 then .h else b.J),.a (sX x ni b.J),.a (.d (hT x)),.a (.e 6)] (S4 d [] (I5 (.a cZ) (.a [.d p,.e 4])) [[]] jR) λv s=>mW (n+8) 17 (qZ ns x (t2 h (fR h)) (iX w) [b.J,.d (sY x),.j [.h,(wV ni.length).I,mh x ni,b.J],sX x ni b.J,.e 6,v]) s q):
  mW (n+8) 11 (qZ ns x (t2 h (fR h)) (iX w) [b.J]) (SW d cZ p [[]] ni) q:=by
 refine m7 hx ?_;rw[<-SQ];have fl:(nw (vh x ni)).length=(vh x ni).length+1:=jJ;have il:ni.length<(vh x ni).length:=by unfold vh;split<;>simp only[jJ]<;>first|exact bD _|exact gY (bD _)
 refine Lz (bB Mi (by exact fJ (.a ja qz) aI [.b ja jt] rfl hs)) (λt ht=>?_) λjR hl hN=>?_
 .have:t.c'∈(Om x ni b).J:=oY ht;rw[Gr]at this
  rcases aF.mp this with e|this
  .rw[e,fl];exact bD _
  .rcases aF.mp this with e|this
   .rw[e,fl];exact gY il
   .rcases aS.mp this with this|this
    .rw[fl];unfold vh
     induction hb:hW x with
     |false=>rw[hb]at this;cases this
     |true=>
      rw[hb]at this
      rw[aB.mp this,if_pos rfl];simp only[jJ];exact fJ (.a ja aU) (.a (.a (.a ja aU) aU) aU) [] rfl
    .rw[fl];exact gY (uK (hi _ this) il)
 .have N:=hN.I;rw[Gr]at N
  obtain⟨u,hu⟩:=N.a _ aj;rw[SQ];exact m8 hx (K jR u hu (N.I λi hi=>af _ (af _ (bw _ hi))))

variable{w1 w':ah}
theorem Qq{fn b:PV}(hh:how=2)(K:k (.e 17) (S4 d [] (rJ w1 w' g0 [] .h .h qY []).I rg ni)):av (n+3) 89 [.a (.e 1),.a b,.a fn,.a (.d how),.a (.e 6)] (S4 d [] (I5 w1 w') rg ni) k:=by subst hh;exact Hf K
theorem Mv{t6:Nat}{r:Nat->Bool}{f':Fc}{vs:S3}(hh:how∈[(0:Int),1])(hu:ni[id]?=some u)(P:GP ni (vD how S) gs r)(hl:t6<gs.length)(hr:qU gs<=40000)(g:lj (rJ w1 w' gs [(.d u,.d t6)] (.e 6) (BX how) qY (gD S)) f')(K:k (.g (r t6)) (S4 d X f'.I rg ni)):
  av (n+4) 40 [.a (.e 17),.a (.l id vs)] (S4 d X f'.I rg ni) k:=by
 obtain⟨f1,f2,gk,gp,gn,ge,gx,dr,nr,⟨x1,x2,x3,x4,x5⟩,sm,ty,rt,tr,ow,nv,Fg⟩:=f';obtain⟨a,b,c,d,e,f,g,h⟩:=g;have hr2:z8 (xO gs) [] gs.length<=40000:=by
  have:=Be (gs:=gs) gs.length;rw[List.take_length]at this
  exact aA this hr
 cases a
 cases b
 cases c
 cases d
 cases e
 cases f
 cases g
 cases h
 exact bd (f:=⟨f1,f2,[],[],[],[],[(.d u,.d t6)],dr,nr,⟨x1,x2,.h,.h,x5⟩,sm,ty,rt,tr,ow,gD S,Fg⟩) hh hu rfl rfl P hl hr2 K
theorem MN(hx:x<192)(h4:x%8≠4)(hh:h∈dG)(hw:w∈cK)(M:kq m.I.J m.O 0 ni.length 10 p)(hn:ni.length<=349)(hd:m.d'<=6)(K:∀s,k (.g true) s):
  mW (n+14) 11 (qZ ns x (t2 h (fR h)) (iX w) [m.I.I]) (SW d (m.O.map nN) p [[]] ni) (eF k):=by
 have bt:=m.j';have il:m.I.J.length<=349:=aA (DC M.f λi hi=>(M.c i hi).2) hn
 have ek:(Bd.a m).I.V=m.I.J:=by show(m.I.V++[]).map _=_;rw[az]
 refine Jq (n:=n+6) (b:=.a m) hx (by show m.I.O+0<_;have:=bt.d;exact fh (.a ja fU) jt [.s 4 (.a jb xM),.a ja (.m 4 jb)] rfl il this) (λi hi=>(M.c i (ek▸hi)).2) λjR u hu N=>?_
 rw[ek]at N
 rw[if_neg h4];by_cases h2:((hT x:Nat):Int)=2
 .refine Qq (n:=n+11) h2 ?_;exact KD (e:=true) h4 hh hw M hn hd hu N (by rw[decide_eq_true h2];rfl) (.inl rfl) (λf' g{d X k rg vs} K=>Ms g.a K) K
 .have h01:((hT x:Nat):Int)∈[(0:Int),1]:=(by decide:∀y∈uF,y≠2->y∈[(0:Int),1]) _ DN h2
  have en:n+14=(n+11-m.d')+m.d'+3:=congrArg (· +3) (iZ (by exact mK ja (.a jb (.n 11)) [.a ja (.n 6)] rfl hd)).symm
  have hc:=bt.m;obtain⟨id,vs,Oj⟩:∃id vs,sX x ni m.I.I=.l id vs:=⟨_,_,rfl⟩;have F:=λK=>El (n:=n+11-m.d') (m:=m) (d:=d) (w1:=.a (m.O.map nN)) (w:=.a [.d p,.e 4]) (X:=[]) (rg:=[[]]) (id:=(vh x ni).length) (vs:=[.d 27,.k "f",.j [.h,(wV ni.length).I,mh x ni,m.I.I],.d (sY x),.d 5]) (k:=λv s=>mW (n+14) 17 (qZ ns x (t2 h (fR h)) (iX w) [m.I.I,.d (sY x),.j [.h,(wV ni.length).I,mh x ni,m.I.I],sX x ni m.I.I,.e 6,v]) s (eF k)) h01 hu (by exact mK ja (.n 10000) [.a jb xM,.a ja jb] rfl il hc) (by have:=bt.d;exact fh ja jt [.s 4 (.a jb xM),.a ja (.m 4 jb)] rfl il this) (λe he=>by
   rw[bt.j]at he
   obtain⟨c,hc,rfl⟩:=bF.mp he;exact⟨⟨_,rfl⟩,N.a _ (bt.g.subset (oY hc))⟩) K
  rw[<-en]at F
  refine F λS hS=>?_
  rw[bt.j]at hS
  obtain⟨r1,O⟩:=Bk.m' (b:=decide (((hT x:Nat):Int)=1)) m (be (how:=(hT x:Nat)) N bt.g M.f hS) (Mg (fn:=.l (vh x ni).length [.d 27,.k "f",.j [.h,(wV ni.length).I,mh x ni,m.I.I],.d (sY x),.d 5]));have hco:=O.m;generalize m.V ⟨g1 (.l (vh x ni).length [.d 27,.k "f",.j [.h,(wV ni.length).I,mh x ni,m.I.I],.d (sY x),.d 5]),1,[]⟩=y at O hco⊢
  refine KD (e:=(m.e' (decide (((hT x:Nat):Int)=1))).1) h4 hh hw M hn hd hu N (by rw[decide_eq_false h2,se]) (.inr rfl) (λf' g{d X k rg vs} K=>Mv (n:=n+7) h01 hu O.p.g O.p.b (by have:qU y.a+2*y.o.length<=2+0+12*m.c':=hco;exact ri ja jt [.s 12 (.a jb xM),.s 12 (.a jc jb),.a (.a ja (.m 2 jd)) (.a (.a iH fU) (.m 12 jc))] rfl il hc this) g (by rw[O.l];exact K)) K

variable{w1 mm:Int}{s:St}
theorem n20(hb:z.b=.h)(K:mW n 21 (z.J a [.g true]) s q):mW n 20 (z.J a []) s q:=by
 have ez:z= {z with b:=.h}:=by rw[<-hb]
 rw[ez]at K⊢
 exact gi 1 (m:=21) (P:=λq=>q .a (({z with b:=.h}:Mp).J a [.g true]) s) (λq=>by kernel_rfl) K rfl
theorem Tv(hb:z.b=.h)(hs:z.s∈[(0:Int),2])(K:mW n 25 (z.J a [a0,a1,a2,t2 0 4095]) s q):mW n 24 (z.J a [a0,a1,a2,v]) s q:=by
 have ez:z= {z with s:=z.s,b:=.h}:=by rw[<-hb]
 rw[ez]at K⊢
 have e:∀q:KX,[(0:Int),2].map (λs'=>mS n 24 1 (({z with s:=s',b:=.h}:Mp).J a [a0,a1,a2,v]) s q)=lK (λs'=>q .a (({z with s:=s',b:=.h}:Mp).J a [a0,a1,a2,t2 0 4095]) s) [(0:Int),2]:=λq=>by kernel_rfl
 exact gi 1 (m:=25) (P:=λq=>q .a (({z with s:=z.s,b:=.h}:Mp).J a [a0,a1,a2,t2 0 4095]) s) (λq=>iw (cL (e q) hs)) K rfl
theorem n31(hb:z.b=.h)(K:k (.g true) (s.I List.tail)):mW n 31 (z.I a a0 a1 a2 w0 w1 y sp mm o) s (eF k):=by
 have ez:z= {z with b:=.h}:=by rw[<-hb]
 rw[ez];exact gi 1 (m:=32) (P:=λq=>q (.b (.a (.g true))) (({z with b:=.h}:Mp).I a a0 a1 a2 w0 w1 y sp mm o) s) (λq=>by kernel_rfl) K rfl
theorem HH(hx:x<192)(hn:YD x=true)(hh:h∈dG)(hw:w∈cK)(K:∀s,k (.g true) s):mW (n+14) 11 (qZ ns x (t2 h (fR h)) (iX w) [.h]) (SW d [] 10 [[]] []) (eF k):=by
 have hy:x%8=0\/x%8=2:=by
  unfold YD at hn
  simp only[bg,decide_eq_true_eq]at hn
  exact(by decide:∀y,y<4->y%2=0->y=0\/y=2) _ hn.2.2 hn.2.1
 have h4:x%8≠4:=λe=>by rcases hy with h9|h9<;>rw[h9]at e<;>contradiction
 have hs:((hS x:Nat):Int)∈[(0:Int),2]:=by unfold hS;rcases hy with e|e<;>rw[e]<;>decide
 refine Jq (n:=n+6) (b:=.c) hx (by decide) (λi hi=>nomatch hi) λjR u hu N=>?_
 rw[if_neg h4];refine wm (n:=n+11) DN ?_;refine m9 (z:=zM ns x h w .h []) (f:=rJ (.a []) (.a [.d 10,.e 4]) g0 [] .h (BX (hT x:Nat)) qY []) ?_;refine XT (z:=zM ns x h w .h []) (f:=rJ (.a []) (.a [.d 10,.e 4]) g0 [] .h (BX (hT x:Nat)) qY []) (rs:=[]) (p:=10) rfl rfl (xN h4) (by decide) (λr hr=>nomatch hr) λa=>?_
 refine m19 (z:=zM ns x h w .h []) (xN h4) hu rfl ?_;refine n20 rfl ?_;refine m21 (rs:=[]) rfl (by decide) (λr hr=>nomatch hr) ?_
 refine m22 (ts:=[]) (rs:=[]) (xN h4) rfl ?_;refine hV ?_;refine CY (n:=n+12) (ts:=[]) (bl:=true) (λt ht=>nomatch ht) (by decide) ?_
 refine Tv rfl hs ?_;refine hO (n:=n+11) rfl hh ?_;refine Cn (n:=n+12) (fl:=sY x) hh (by unfold sY;rcases hy with e|e<;>rw[e]<;>decide) ?_
 refine Jy (z:=zM ns x h w .h []) (X:=mD h) (f:=Tq (hS x:Nat) u (Tw.I (rJ (.a []) (.a [.d 10,.e 4]) g0 [] .h (BX (hT x:Nat)) qY []) ⟨[],[]⟩)) (b:=false) (c0:=.a []) (c1:=.a []) rfl rfl (W:=t2 0 4095) (rF (by decide)) (bB vt (by decide)) λsn mm o=>?_
 exact n31 rfl (K _)

variable{y:Nat}{b:Bool}{v:Int}{its':V6}
abbrev DV(y:Nat):PV:=.f [gO 0 8,dz (eO y)]
abbrev vF(sv:PV)(y:Nat)(u:Int):Fc:= {rJ (.a [.f [gO 0 8,.d y]]) (.a [.d 10,.e 4]) g0 [] .h sv qY []with a:=[(.d u,.d (eO y))],g:=[.a [DV y]]}
theorem v18(hs:z.s=4)(hb:z.b=gO 0 8)(hy:y<16)(hu:ni[0]?=some u)(K:∀a,mW n 23 (z.J a [.g true,.j [dz (eO y)],.g false]) (S4 d X (vF sv y u).I ([]::rg) ni) q):
  mW n 18 (z.c' [.e 27]) (S4 d X (kr (rJ (.a [.f [gO 0 8,.d y]]) (.a [.d 10,.e 4]) g0 [] .h sv qY []) [.a []]).I ([]::rg) ni) q:=by
 have ez:z= {z with s:=4,b:=gO 0 8}:=by rw[<-hs,<-hb]
 rw[ez]at K⊢
 have e:∀q:KX,(List.range 16).map (λ(y:Nat)=>mS n 18 5 (({z with s:=4,b:=gO 0 8}:Mp).c' [.e 27]) (S4 d X (kr (rJ (.a [.f [gO 0 8,.d y]]) (.a [.d 10,.e 4]) g0 [] .h sv qY []) [.a []]).I ([]::rg) ni) q)=lK (λ(y:Nat)=>ob ni[0]? λu=>q .a (({z with s:=4,b:=gO 0 8}:Mp).J (some (.a (gO 0 8)),some (.a (.d y))) [.g true,.j [dz (eO y)],.g false]) (S4 d X (vF sv y u).I ([]::rg) ni)) (List.range 16):=λq=>by kernel_rfl
 refine gi 5 (m:=23) (P:=λq=>ob ni[0]? λu=>q .a (({z with s:=4,b:=gO 0 8}:Mp).J (some (.a (gO 0 8)),some (.a (.d y))) [.g true,.j [dz (eO y)],.g false]) (S4 d X (vF sv y u).I ([]::rg) ni)) (λq=>iw (cL (e q) (cE.mpr hy))) ?_ rfl
 exact cG (o:=ni[0]?) hu (K _)
theorem US(hv:v∈i9):qu X [v]=(v,X):=by
 have e:i9.map (λv=>qu X [v])=lK (λv=>(v,X)) i9:=by kernel_rfl
 exact cL e hv
theorem v35(hs:z.s=4)(K:mW n 39 (z.O (z.I a a0 a1 a2 w0 w1 p sp mm o) b a') (S4 d X (n7 (FS (wZ f) c0 c1 sn g b w wr st D N vd dp)).I ([]::rg) ni) q):mW n 35 (z.O (z.I a a0 a1 a2 w0 w1 p sp mm o) b a') (S4 d X (FS f c0 c1 sn g b w wr st D N vd dp).I ([]::rg) ni) q:=by
 have ez:z= {z with s:=4}:=by rw[<-hs]
 rw[ez]at K⊢
 have e:∀q:KX,B2.map (λb=>mS n 35 1 (z.O (({z with s:=4}:Mp).I a a0 a1 a2 w0 w1 p sp mm o) b a') (S4 d X (FS f c0 c1 sn g b w wr st D N vd dp).I ([]::rg) ni) q)=lK (λb=>q .a (z.O (({z with s:=4}:Mp).I a a0 a1 a2 w0 w1 p sp mm o) b a') (S4 d X (FS f c0 c1 sn g b w wr st D N vd dp).I ([]::rg) ni)) B2:=λq=>by kernel_rfl
 exact gi 1 (m:=36) (P:=λq=>q .a (z.O (({z with s:=4}:Mp).I a a0 a1 a2 w0 w1 p sp mm o) b a') (S4 d X (FS f c0 c1 sn g b w wr st D N vd dp).I ([]::rg) ni)) (λq=>iw (cL (e q) (by induction b<;>decide))) (m36 K) rfl
theorem Hm(hv:v∈i9)(hw:w∈cK)(hc:c0=.a [.f [gO 0 8,dz v]])(K:k (.f [.j ((if wb then k9 2322 8 v w []else[]).map sZ),.j (if wb then lM 8 v w []else[])]) (S4 d X (kr f (c0::its')).I rg ni)):
  av (n+2) 88 [.a (.e 27),.a (iX w),.a (.d 4),.a (.g wb),.a (.g true)] (S4 d X (kr f (c0::its')).I rg ni) k:=by
 subst hc;rw[cO];have e:i9.map (λv=>cK.map λw=>B2.map λwb=>gI (n+2) 88 [.a (.e 27),.a (iX w),.a (.d 4),.a (.g wb),.a (.g true)] (S4 d X (kr f (.a [.f [gO 0 8,dz v]]::its')).I rg ni) k)=lK (λv=>lK (λw=>lK (λwb=>k (.f [.j (if wb&& !rL v w then[t2 2322 8]else[]),.j (if wb&&(rL v w&&z5 v w)then[t2 1 8]else[])]) (S4 d X (kr f (.a [.f [gO 0 8,dz v]]::its')).I rg ni)) B2) cK) i9:=by kernel_rfl
 rw[cL (cL (cL e hv) hw) (x:=wb) (by induction wb<;>decide)]
 unfold k9 lM at K
 induction wb
 .exact K
 .induction hg:rL v w
  .rw[hg]at K;exact K
  .induction ha:z5 v w
   .rw[hg,ha]at K;exact K
   .rw[hg,ha]at K;exact K

theorem Zm(hs:z.s=4)(hh:z.h∈dG)(Oj:z.fn=nO z.e [.h,z.f.getD 1 .h,z.f.getD 2 .h,gO 0 8] 12)(hb:z.b=gO 0 8)(hy:y<16)(hu:ni[0]?=some u)
  (go:∀(a:S7×S7)(y':Int)(Y:S3)(w0 w1:Int)(R:S1)(W:PV),Np (mD z.h++Y) y' W w0 w1 R->Y.length<=4->mW (n+14) 26 (z.J a [.g true,.j [dz (eO y)],.g false,t2 w0 w1,.d y']) (S4 d (mD z.h++Y) (vF sv y u).I [[]] ni) q):
  mW (n+14) 17 (z.c' []) (S4 d [] (rJ (.a [.f [gO 0 8,.d y]]) (.a [.d 10,.e 4]) g0 [] .h sv qY []).I [[]] ni) q:=by
 have hv:=sO hy;have hT:∀t∈[eO y],t∈i9:=λt ht=>aB.mp ht▸hv
 refine m9 (f:=rJ (.a [.f [gO 0 8,.d y]]) (.a [.d 10,.e 4]) g0 [] .h sv qY []) ?_;refine v18 hs hb hy hu λa=>?_
 refine hV ?_;refine CY (n:=n+12) (ts:=[eO y]) (bl:=false) hT (show 1<50000 by decide) ?_
 refine m24 (ts:=[eO y]) (by rw[hs];decide) hh hb ?_
 refine hO (n:=n+11) rfl hh ?_;rw[Oj];refine Cp (n:=n+12) hh ?_;refine vJ (n:=n+11) hu (show bA (.d u) [(.d u,.d (eO y))]=_ from oi) ?_
 have S:=λK=>qM (n:=n+2) (d:=d) (rg:=[[],[]]) (ni:=ni) (f:=vF sv y u) (X:=mD z.h) (k:=λv s=>mW (n+14) 26 (z.J a [.g true,.j [dz (eO y)],.g false,jN z.s z.h [eO y] false (IY z.h [eO y] false),v]) (s.I List.tail) q) hT hh (aA vt (by decide)) K
 rw[US hv]at S
 refine S λf' Y F hY J=>?_
 obtain⟨w0,w1,R,M⟩:=yi (ts:=[eO y]) (bl:=false) F;have hW:jN z.s z.h [eO y] false (IY z.h [eO y] false)=t2 w0 w1:=by
  unfold jN;rw[if_neg (by rw[hs];decide),if_neg (λh=>nomatch h)]
  exact M.W
 rw[hW];exact go a f' Y w0 w1 R _ M hY
theorem Zl{y':Int}(hs:z.s=4)(hw:z.w∈cK)(Oj:z.fn=nO z.e [.h,z.f.getD 1 .h,z.f.getD 2 .h,gO 0 8] 12)(hb:z.b=gO 0 8)(hy:y<16)(hu:ni[0]?=some u)(hi:ni[z.e]?=some u2)(hX:X.length+1<900)(K:∀s,k (.g true) s):
  mW (n+14) 31 (z.I a (.g true) a1 a2 w0 w1 y' (.e (xW false)) mm o) (S4 d X (kr (vF sv y u) (qw false (.a [DV y]) c1++[sn])).I [[]] ni) (eF k):=by
 have hv:=sO hy;refine m31 hb ?_;refine m32 (n:=n+12) (by rw[hs];decide) rfl ?_
 rw[SN (f:=vF sv y u) (g:=false) (b:=false) rfl rfl rfl rfl rfl];refine v35 hs ?_;refine m39 ?_;have e0:AW z=0:=by unfold AW;rw[hs];rfl
 have hr:oX z=0\/(oX z=1/\rM z∈cK):=by
  unfold oX rM;induction z.d
  .exact .inl rfl
  .exact .inr ⟨rfl,hw⟩
 have e1:(if oX z=1 then Rz.J ⟨X,[],[]⟩ 8 (eO y) (rM z)else⟨X,[],[]⟩:Rz)=if z.d then Rz.J ⟨X,[],[]⟩ 8 (eO y) z.w else⟨X,[],[]⟩:=by unfold oX rM;induction z.d<;>rfl
 rw[Oj,e0];refine Lm (n:=n+1) (f:=wZ (vF sv y u)) (z:=⟨X,[],[]⟩) (v:=eO y) hi hr hu hv oi ⟨hX,(by decide:0+2*1<80000),(by decide:0+1<80000),λJ h=>nomatch h⟩ ?_
 rw[e1];refine m40 ?_;rw[hs];have K2:∀(F:aai)(N:S3)(X':S3),F.length<=1->N.all (bQ 3)=true->eU (.inr [30,31]) (.a (.f [.j (F.map sZ),.j N])) (z.O (z.I a (.g true) a1 a2 w0 w1 y' (.e (xW false)) mm o) false (a.1,none)) λloc=>mW (n+14) 41 loc (S4 d X' (n7 (FS (wZ (vF sv y u)) (.a [DV y]) c1 sn false false (rM z) (oX z) 0 F N 0 0)).I [[]] ni) (eF k):=λF N X' hF hN=>ZB (bB hF (by decide)) (YP Dk hN (K _))
 induction hb:z.d with
 |false=>refine Hm (n:=n+12) (wb:=false) (f:=n7 (FS (wZ (vF sv y u)) (.a [DV y]) c1 sn false false (rM z) (oX z) 0 [] [] 0 0)) (its':=[sn,Nf (rM z) (oX z) 0 0]) hv hw rfl ?_;exact K2 [] [] X (by decide) rfl
 |true=>
  refine Hm (n:=n+12) (wb:=true) (f:=n7 (FS (wZ (vF sv y u)) (.a [DV y]) c1 sn false false (rM z) (oX z) 0 (k9 2322 8 (eO y) z.w []) (lM 8 (eO y) z.w []) 0 0)) (its':=[sn,Nf (rM z) (oX z) 0 0]) hv hw rfl ?_;refine K2 (k9 2322 8 (eO y) z.w []) (lM 8 (eO y) z.w []) _ ?_ ?_
  .exact wc
  .unfold lM
   split<;>rfl
theorem KS(hx:x<192)(h4:x%8=4)(hy:y<16)(hh:h∈dG)(hw:w∈cK)(K:∀s,k (.g true) s):mW (n+14) 11 (qZ ns x (t2 h (fR h)) (iX w) [gO 0 8]) (SW d [.f [gO 0 8,.d y]] 10 [[]] [0]) (eF k):=by
 have hs:((hS x:Nat):Int)=4:=by unfold hS;rw[h4];rfl
 refine Jq (n:=n+6) (b:=.b y) hx (show 1+0<40000 by decide) (λi hi=>by rw[aB.mp hi];decide) λjR u hu N=>?_
 rw[if_pos h4];obtain⟨u0,h0⟩:=N.a 0 aj;have TL:sY x=12:=by unfold sY;rw[h4];rfl
 refine wm (n:=n+11) DN ?_;have Oj:(zM ns x h w (gO 0 8) [0]).fn=nO (zM ns x h w (gO 0 8) [0]).e [.h,(zM ns x h w (gO 0 8) [0]).f.getD 1 .h,(zM ns x h w (gO 0 8) [0]).f.getD 2 .h,gO 0 8] 12:=by rw[<-TL];rfl
 refine Zm (z:=zM ns x h w (gO 0 8) [0]) hs hh Oj rfl hy h0 λa y' Y w0 w1 R W M hY=>?_
 have hX:(mD h++Y).length<=5:=by rw[aa];exact jV vt hY
 refine Jy (z:=zM ns x h w (gO 0 8) [0]) (f:=vF _ y u0) (b:=false) (c0:=.a [DV y]) (c1:=.d) rfl rfl M (by exact fJ ja eH [.a ja TA] rfl hX) λsn mm o=>?_
 refine Zl (z:=zM ns x h w (gO 0 8) [0]) hs hw Oj rfl hy h0 hu ?_ K;obtain⟨J,J,p3⟩:=jY (X:=mD h++Y) (row:=iG 16 0);rcases(show(cj (mD h++Y) gh).2=_\/(cj (mD h++Y) gh).2=_++[gh]from p3)with e|e
 .rw[e];exact fJ (.a ja aU) eH [.a ja TA] rfl hX
 .rw[e,aa];show _+1+1<900;exact fJ (.a (.a ja aU) aU) eH [.a ja TA] rfl hX

theorem ZW(ns:S1):gI 15 90 [.a (.n ns)] ⟨[],[],[]⟩ λv J=>v=.g true:=by
 rw[<-cO];refine LP (n:=1) λx hx h hh w hw b c p ni hb=>?_
 induction b with
 |c=>obtain⟨h1,rfl,rfl⟩:=hb;exact HH (n:=0) hx h1 hh hw λJ=>rfl
 |b y=>obtain⟨h1,h2,rfl,rfl⟩:=hb;exact KS (n:=0) hx h1 h2 hh hw λJ=>rfl
 |a m=>obtain⟨h1,M,h2,h3⟩:=hb;exact MN (n:=0) hx h1 hh hw M h2 h3 λJ=>rfl

end
end au
end
noncomputable section
open PySem PySem.W PySem.Calls PyProof.Rows
namespace au
section
variable{u:Value}{a:Addr}{n:Nat}{v:PV}{h:Heap}{vs:S3}{s:Shared}{i:Nat}{G:Prop}{c:ah}{Q:Value->Shared->Prop}{x:Str}{us:S9}{o:Obj}{b:Bool}{kvs:S8}{h':Heap}{k:Nat}{A:Around}{st:St}{d:Nat}{items:WA}{E:Value->Shared->Prop}{as:WL}{j:Nat}{w:World}{m:Nat}{cU:St}{pos:Pos}{p:Pos}{f:Nat}{uo:Value}{dx:Addr}{l:Nat}{eK:List (S3)}{r:V6}{it:It}{pm:V6}{ni:S1}{rr:V5}{xs:S3}{u1:Value}{u2:Value}{L0:Addr}{eZ:S9}{cF:aam}{t:Tok}{es:aae}{M:Model}{gq:St}{tgt:Nat ⊕ S5}{op:vn}{v2:MV}{ui:Value}{ns:S1}{loc:dj}{D:Addr->Prop}{p2:Pos}{U:S5}{R:WRecords}{ys:S3}{v1:MV}{name:Nat}{y:Expr}{nv:Nat->S3}{e:ME}{kindOf:Str->aaq}{fd:FuncData}
section
set_option genCtorIdx true in
inductive Pl where
 |f (i:Nat)
 |b (l i:Nat)
 |e (c k:Nat)
 |g (i:Nat)
 |d (a:Addr)
structure Wd where
 d:Addr->Option (Pl×Bool)
 f:Nat->S3
structure dX where
 d:Program
 w:World
 b:Heap
 K:Nat->Frag
 f:Str->V9
 g:Str->V9
 j:Addr
 k:S1
 i:Addr
 e:Nat->Addr
 n:Nat->Str
 a:Nat->Addr
 o:Nat->Str
 l:Nat->Str
 c:Nat->Str
 h:Nat
noncomputable abbrev dX.I(C:dX):=model C.d C.w
noncomputable abbrev jH(items:WA)(_:Nat):Obj:= {cls:=.type "tuple",data:=.seq items 0}
noncomputable abbrev b8(items:WA)(n:Nat):Obj:= {cls:=.type "list",data:=.seq items n}
def qe(W:Wd)(h:Heap)(a:Addr)(o:Obj):Prop:=W.d a=none/\h.get? a=some o
section
variable (C:dX)
def AK(l:S5)(es:aae):Prop:=List.rec (motive:=λJ=>aae->Prop) (λes=>es=[]) (λn J ih es=>∃e r,es=e::r/\n<C.h/\(∃t,e.key=.str (C.c n) t)/\ih r) l es
def tM(o:Obj)(cF:aam):Prop:=o.ExactDict/\∃es ep,o.data=.dict es ep/\KeysOf (intKind C.d C.w) es/\Pairs (intKind C.d C.w) es.toList cF/\(cF.map (·.1)).Nodup
variable (W:Wd)(h:Heap)
def TZ:S9->Prop:=λus=>us=[]
def qE(x:Value->Prop)(y:S9->Prop):S9->Prop:=λus=>∃u r,us=u::r/\x u/\y r
def xd(t:WA->Nat->Obj)(r:S9->Prop):Value->Prop:=λu=>∃a items n,u=.ref a/\qe W h a (t items n)/\r items.toList
def DX(ks:S3)(r:S9->Prop):Value->Prop:=λu=>∃a o cF,u=.ref a/\C.b.get? a=none/\qe W h a o/\tM C o cF/\ks=cF.map (λe=>.d e.1)/\r (cF.map (·.2))
def DW(c:Nat)(r:S9->Prop):Value->Prop:=λu=>∃a dx es n,u=.ref a/\qe W h a (instObj (C.a c) dx)/\qe W h dx (dictOf es n)/\AK C (fZ c) es/\r (es.map (·.val))
def sD(p:Pl):Value->Prop:=λu=>∃a,u=.ref a/\W.d a=some (p,false)
def VR(v:PV):Value->Prop:=PV.rec (motive_1:=λJ=>Value->Prop) (motive_2:=λJ=>S9->Prop) (λu=>u=.none) (λb u=>u=.bool b) (λi u=>∃t,u=.int i t) (λs u=>∃t,u=.str s t)
 (λJ r u=>xd W h jH (λus=>r us/\us.length<=100000) u) (λJ r u=>xd W h b8 (λus=>r us/\us.length<=100000) u) (λks J J r=>DX C W h ks r) (λc J r=>DW C W h c r) (λi vs J u=>sD W (.g i) u/\W.f i=vs) (λi=>sD W (.f i)) (λa u=>a=0/\u=.ref C.i) (λns u=>ns=C.k/\u=.ref C.j)
 TZ (λJ J x y=>qE x y) v
def bR(vs:S3):S9->Prop:=PV.rec_1 (motive_1:=λJ=>Value->Prop) (motive_2:=λJ=>S9->Prop) (λu=>u=.none) (λb u=>u=.bool b) (λi u=>∃t,u=.int i t) (λs u=>∃t,u=.str s t)
 (λJ r u=>xd W h jH (λus=>r us/\us.length<=100000) u) (λJ r u=>xd W h b8 (λus=>r us/\us.length<=100000) u) (λks J J r=>DX C W h ks r) (λc J r=>DW C W h c r) (λi vs J u=>sD W (.g i) u/\W.f i=vs) (λi=>sD W (.f i)) (λa u=>a=0/\u=.ref C.i) (λns u=>ns=C.k/\u=.ref C.j)
 TZ (λJ J x y=>qE x y) vs
end
variable{C:dX}{W W':Wd}{h h':Heap}
def eE(h:Heap)(a:Addr):Prop:=(h.get? a).isSome=true
theorem bS{a:Addr}{o:Obj}(e:h.get? a=some o):eE h a:=congrArg Option.isSome e
theorem cJ(h:Heap):h.get? h.objs.size=none:=by
 induction e:h.get? h.objs.size with
 |none=>rfl
 |some o=>exact absurd (yZ e) (Nat.lt_irrefl _)
structure g9(W:Wd)(h:Heap)(W':Wd)(h':Heap):Prop where
 b:∀a o,qe W h a o->qe W' h' a o
 d:∀a i,W.d a=some (.f i,false)->W'.d a=some (.f i,false)
 c:∀a i,W.d a=some (.g i,false)->W'.d a=some (.g i,false)/\W'.f i=W.f i
theorem g9.O:g9 W h W h:=⟨λJ J x=>x,λJ J x=>x,λJ J x=>⟨x,rfl⟩⟩
theorem g9.I{W2:Wd}{h2:Heap}(x:g9 W h W' h')(y:g9 W' h' W2 h2):g9 W h W2 h2:=⟨λa o z=>y.b a o (x.b a o z),λa i z=>y.d a i (x.d a i z),λa i z=>⟨(y.c a i (x.c a i z).1).1,((y.c a i (x.c a i z).1).2).trans (x.c a i z).2⟩⟩
theorem xd.Z'{t:WA->Nat->Obj}{r r':S9->Prop}(X:g9 W h W' h')(k:∀us,r us->r' us){u:Value}(x:xd W h t r u):xd W' h' t r' u:=by obtain⟨a,items,n,e,i,x⟩:=x;exact⟨a,items,n,e,X.b _ _ i,k _ x⟩
theorem DX.V'{ks:S3}{r r':S9->Prop}(X:g9 W h W' h')(k:∀us,r us->r' us){u:Value}(x:DX C W h ks r u):DX C W' h' ks r' u:=by obtain⟨a,o,cF,e,n,i,d,q,x⟩:=x;exact⟨a,o,cF,e,n,X.b _ _ i,d,q,k _ x⟩
theorem DW.X'{c:Nat}{r r':S9->Prop}(X:g9 W h W' h')(k:∀us,r us->r' us){u:Value}(x:DW C W h c r u):DW C W' h' c r' u:=by obtain⟨a,dx,es,n,e,i,j,q,x⟩:=x;exact⟨a,dx,es,n,e,X.b _ _ i,X.b _ _ j,q,k _ x⟩
theorem qE.U'{x x':Value->Prop}{y y':S9->Prop}(a:∀u,x u->x' u)(b:∀us,y us->y' us){us:S9}(z:qE x y us):qE x' y' us:=by obtain⟨u,r,e,p,q⟩:=z;exact⟨u,r,e,a _ p,b _ q⟩
theorem sD.Y'{p p':Pl}(k:∀a,W.d a=some (p,false)->W'.d a=some (p',false)){u:Value}(x:sD W p u):sD W' p' u:=by obtain⟨a,e,o⟩:=x;exact⟨a,e,k a o⟩
theorem vNd.I{i:Nat}{vs:S3}(X:g9 W h W' h'){u:Value}(x:sD W (.g i) u/\W.f i=vs):sD W' (.g i) u/\W'.f i=vs:=by obtain⟨⟨a,e,o⟩,q⟩:=x;exact⟨⟨a,e,(X.c a i o).1⟩,(X.c a i o).2.trans q⟩
theorem VR.u'(X:g9 W h W' h')(v:PV):∀u,VR C W h v u->VR C W' h' v u:=
 PV.rec (motive_1:=λv=>∀u,VR C W h v u->VR C W' h' v u) (motive_2:=λvs=>∀us,bR C W h vs us->bR C W' h' vs us) (λJ x=>x) (λJ J x=>x) (λJ J x=>x) (λJ J x=>x)
  (λJ ih J x=>xd.Z' (r:=λus=>bR C W h _ us/\us.length<=100000) (r':=λus=>bR C W' h' _ us/\us.length<=100000) X (λJ x=>⟨ih _ x.1,x.2⟩) x) (λJ ih J x=>xd.Z' (r:=λus=>bR C W h _ us/\us.length<=100000) (r':=λus=>bR C W' h' _ us/\us.length<=100000) X (λJ x=>⟨ih _ x.1,x.2⟩) x) (λJ J J ih J x=>DX.V' X ih x) (λJ J ih J x=>DW.X' X ih x) (λJ J J J x=>vNd.I X x) (λi J x=>sD.Y' (λa=>X.d a i) x) (λJ J x=>x) (λJ J x=>x)
  (λJ x=>x) (λJ J a b J x=>qE.U' a b x) v
theorem bR.H'(X:g9 W h W' h')(vs:S3):∀us,bR C W h vs us->bR C W' h' vs us:=List.rec (motive:=λvs=>∀us,bR C W h vs us->bR C W' h' vs us) (λJ x=>x) (λv J b J x=>qE.U' (VR.u' X v) b x) vs
theorem bR.J'{P:S3->S9->Prop}(n:P [] [])(c:∀v u vs us,VR C W h v u->bR C W h vs us->P vs us->P (v::vs) (u::us)):∀{vs:S3}{us:S9},bR C W h vs us->P vs us:=λ{vs}=>List.rec (motive:=λvs=>∀{us},bR C W h vs us->P vs us) (λ{us} x=>(show us=[]from x)▸n) (λv vs ih us x=>by obtain⟨u,r,e,a,b⟩:=x;subst e;exact c v u vs r a b (ih b)) vs
theorem bR.I'{v:PV}{u:Value}{vs:S3}{us:S9}(x:VR C W h v u)(y:bR C W h vs us):bR C W h (v::vs) (u::us):=⟨u,us,rfl,x,y⟩
variable{vs:S3}{us:S9}
theorem bR.K'(x:bR C W h vs us):vs.length=us.length:=bR.J' (P:=λvs us=>vs.length=us.length) rfl (λJ J J J J J ih=>congrArg Nat.succ ih) x
theorem bR.L'{v:PV}{k:Nat}(x:bR C W h vs us)(e:vs[k]?=some v):∃u,us[k]?=some u/\VR C W h v u:=bR.J' (P:=λvs us=>∀k,vs[k]?=some v->∃u,us[k]?=some u/\VR C W h v u) (λJ e=>(nomatch (e:(none:aaf)=some v))) (λJ u J J a J ih k=>Nat.casesOn k (λe=>⟨u,rfl,aq e▸a⟩) λk e=>ih k e) x k e
theorem bR.N'{ws:S3}{xs:S9}(x:bR C W h vs us)(y:bR C W h ws xs):bR C W h (vs++ws) (us++xs):=bR.J' (P:=λvs us=>bR C W h (vs++ws) (us++xs)) y (λJ J J J a J ih=>.I' a ih) x
theorem bR.P'{v:PV}{u:Value}(x:VR C W h v u):bR C W h [v] [u]:=.I' x rfl
theorem bR.O'(k:Nat)(x:bR C W h vs us):bR C W h (vs.take k) (us.take k):=bR.J' (P:=λvs us=>∀k,bR C W h (vs.take k) (us.take k)) (λk=>Nat.casesOn k rfl λJ=>rfl) (λJ J J J a J ih k=>Nat.casesOn k rfl λk=>.I' a (ih k)) x k
theorem bR.T'(k:Nat)(x:bR C W h vs us):bR C W h (vs.drop k) (us.drop k):=bR.J' (P:=λvs us=>∀k,bR C W h (vs.drop k) (us.drop k)) (λk=>Nat.casesOn k rfl λJ=>rfl) (λJ J J J a b ih k=>Nat.casesOn k (.I' a b) ih) x k
theorem bR.S'{v:PV}{u:Value}(y:VR C W h v u)(k:Nat)(x:bR C W h vs us):bR C W h (vs.set k v) (us.set k u):=bR.J' (P:=λvs us=>∀k,bR C W h (vs.set k v) (us.set k u)) (λk=>Nat.casesOn k rfl λJ=>rfl) (λJ J J J a b ih k=>Nat.casesOn k (.I' y b) λk=>.I' a (ih k)) x k
theorem bR.Q'(x:bR C W h vs us):bR C W h vs.dropLast us.dropLast:=by rw[mX,mX,x.K'];exact x.O' _
end
abbrev aaa:=Option (Pl×Bool)

variable{W:Wd}{P:Pl}{C:dX}{k1:aaa}{k2:aaa}{W':Wd}
noncomputable def pT(p:Prop):Bool:=@decide p (Classical.propDecidable p)
theorem yU{p:Prop}(h:¬p):pT p=false:=@decide_eq_false p (Classical.propDecidable p) h
theorem uZ{p:Prop}(h:p):pT p=true:=@decide_eq_true p (Classical.propDecidable p) h
theorem Vp{p:Prop}(h:pT p=true):p:=@of_decide_eq_true p (Classical.propDecidable p) h
theorem yT{p:Prop}{b:Bool}(h:b=true↔p):pT p=b:=by
 induction b with
 |true=>exact uZ (h.mp rfl)
 |false=>exact yU λq=>nomatch h.mpr q
theorem yr{p q:Prop}(h:p↔q):pT p=pT q:=congrArg pT (propext h)
theorem Kz{α:Type}[DecidableEq α](a b:α)[BEq α][LawfulBEq α]:(a==b)=pT (a=b):=(yT beq_iff_eq).symm
noncomputable abbrev W0:Wd:=⟨λJ=>none,λJ=>[]⟩
section
variable{C:dX}{W W':Wd}{h h':Heap}
def UC(C:dX)(W:Wd)(h:Heap)(d:Nat)(x:PV)(u:Value):Prop:=(∃i t,x=.d i/\u=.int i t)\/(∃c t,x=.k c/\u=.str c t)\/∃e vs a items,d=e+1/\x=.f vs/\u=.ref a/\qe W h a (jH items 0)/\(bR C W h vs items.toList/\items.toList.length<=100000)/\vs.all (bQ e)=true
theorem y6{d:Nat}{x:PV}{u:Value}:bQ d x=true->VR C W h x u->UC C W h d x u:=
 PV.casesOn (motive_1:=λx=>bQ d x=true->VR C W h x u->UC C W h d x u) x (λk J=>l5 rfl (λJ=>rfl) k) (λJ k J=>l5 rfl (λJ=>rfl) k) (λi _ ⟨t,e⟩=>.inl ⟨i,t,rfl,e⟩) (λc _ ⟨t,e⟩=>.inr (.inl ⟨c,t,rfl,e⟩))
  (λvs k ⟨a,items,_,q,o,r⟩=>Nat.casesOn (motive:=λd=>bQ d (.f vs)=true->UC C W h d (.f vs) u) d (λk=>Bool.noConfusion k) (λe k=>.inr (.inr ⟨e,vs,a,items,rfl,rfl,q,o,r,k⟩)) k)
  (λJ k J=>l5 rfl (λJ=>rfl) k) (λJ J k J=>l5 rfl (λJ=>rfl) k) (λJ J k J=>l5 rfl (λJ=>rfl) k) (λJ J k J=>l5 rfl (λJ=>rfl) k) (λJ k J=>l5 rfl (λJ=>rfl) k) (λJ k J=>l5 rfl (λJ=>rfl) k) (λJ k J=>l5 rfl (λJ=>rfl) k)
theorem qG{G:Prop}{d:Nat}{x:PV}{u:Value}(hk:bQ d x=true)(hx:VR C W h x u)(k1:∀i t,x=.d i->u=.int i t->G)(k2:∀c t,x=.k c->u=.str c t->G)
  (k3:∀e vs a items,d=e+1->x=.f vs->u=.ref a->qe W h a (jH items 0)->(bR C W h vs items.toList/\items.toList.length<=100000)->vs.all (bQ e)=true->G):G:=by
 rcases y6 hk hx with⟨i,t,a,b⟩|⟨c,t,a,b⟩|⟨e,vs,a,items,x1,x2,x3,x4,x5,x6⟩
 .exact k1 i t a b
 .exact k2 c t a b
 .exact k3 e vs a items x1 x2 x3 x4 x5 x6
theorem VR.z'(X:∀a items,qe W h a (jH items 0)->qe W' h' a (jH items 0))(d:Nat):∀{v:PV}{u:Value},bQ d v=true->VR C W h v u->VR C W' h' v u:=Nat.strongRecOn (motive:=λd=>∀{v:PV}{u:Value},bQ d v=true->VR C W h v u->VR C W' h' v u) d λd ih v u hk hx=>qG hk hx (λi t e e2=>by subst e;exact⟨t,e2⟩) (λi t e e2=>by subst e;exact⟨t,e2⟩) λe vs a items e1 e2 e3 o r hs=>by subst e1 e2;exact⟨a,items,0,e3,X a items o,(bR.J' (P:=λvs us=>vs.all (bQ e)=true->bR C W' h' vs us) (λJ=>rfl) (λv u vs us a J i k=>.I' (ih e (bD e) (ak.mp k).1 a) (i (ak.mp k).2)) r.1 hs:bR C W' h' vs items.toList),r.2⟩
theorem VR.y'{d:Nat}{v:PV}{u:Value}(hk:bQ d v=true)(x:VR C W h v u):VR C W0 h v u:=x.z' (λJ J o=>⟨rfl,o.2⟩) d hk
noncomputable def Xe(h:Heap):Nat->Value->aaf:=Nat.rec (λu=>match u with
 |.int i _=>some (.d i)
 |.str s _=>some (.k s)
 |_=>none) λJ ih u=>match u with
 |.int i _=>some (.d i)
 |.str s _=>some (.k s)
 |.ref a=>(h.get? a).bind λo=>match o.data with
  |.seq items _=>(items.toList.mapM ih).map .f
  |_=>none
 |_=>none
theorem zx{d:Nat}(ih:∀{x:PV}{u:Value},bQ d x=true->VR C W h x u->Xe h d u=some x){vs:S3}{us:S9}(r:bR C W h vs us)(hs:vs.all (bQ d)=true):us.mapM (Xe h d)=some vs:=bR.J' (P:=λvs us=>vs.all (bQ d)=true->us.mapM (Xe h d)=some vs) (λJ=>List.mapM_nil) (λv u vs us a J i k=>by rw[List.mapM_cons,ih (ak.mp k).1 a,i (ak.mp k).2];rfl) r hs
theorem yI(d:Nat):∀{x:PV}{u:Value},bQ d x=true->VR C W h x u->Xe h d u=some x:=
 Nat.rec (motive:=λd=>∀{x:PV}{u:Value},bQ d x=true->VR C W h x u->Xe h d u=some x) (λ{x u} hx a=>qG hx a (λi t e e2=>by subst e e2;rfl) (λi t e e2=>by subst e e2;rfl) λJ J J J e=>Nat.noConfusion e) (λd ih x u hx a=>
  qG hx a (λi t e e2=>by subst e e2;rfl) (λi t e e2=>by subst e e2;rfl) λf vs l items e1 e2 e3 o r hs=>by
   cases e1
   subst e2 e3;show((h.get? l).bind _)=_;rw[o.2];exact congrArg (Option.map PV.f) (zx ih r.1 hs)) d
theorem LX{d:Nat}{vs ws:S3}{us:S9}(x:bR C W h vs us)(hk:vs.all (bQ d)=true)(y:bR C W h ws us)(I4:ws.all (bQ d)=true):vs=ws:=aq ((zx (yI d) x hk).symm.trans (zx (yI d) y I4))
theorem VR.inj(d:Nat){x y:PV}{u:Value}(hx:bQ d x=true)(hy:bQ d y=true)(a:VR C W h x u)(b:VR C W h y u):x=y:=aq ((yI d hx a).symm.trans (yI d hy b))
theorem Dq{α:Type}[DecidableEq α]{xs ys:List α}{m n:Nat}(hm:m=xs.length)(hn:n=ys.length)(e:Nat->Bool)(he:∀j,e j=pT (xs[j]?=ys[j]?)):((List.range (min m n)).all e&&m==n)=pT (xs=ys):=by
 subst hm hn;refine(yT ?_).symm;rw[ak,beq_iff_eq,aJ];constructor
 .rintro ⟨a,b⟩;refine List.ext_getElem? λj=>?_
  by_cases hj:j<xs.length
  .have:=a j (cE.mpr (Nat.lt_min.mpr ⟨hj,b▸hj⟩));rw[he j]at this
   exact Vp this
  .rw[aV (by exact mK ja jb [.a ja jb] rfl (cH hj)),aV (by exact pR ja jb [.e jc ja,.a jc jb] rfl b (cH hj))]
 .rintro rfl;exact⟨λj J=>(he j).trans (uZ rfl),rfl⟩
theorem bR.R'{vs:S3}{items:WA}(x:bR C W h vs items.toList){j:Nat}(hj:j<items.size):∃v,vs[j]?=some v/\VR C W h v items[j]:=by
 have hl:j<vs.length:=by rw[x.K',aY];exact hj
 obtain⟨u,e,r⟩:=x.L' (b7 hl);rw[cg,fm hj]at e
 obtain rfl:=si e;exact⟨_,b7 hl,r⟩
end
section
variable{C:dX}
open SeqAt
theorem tT{A:Around}{s:Shared}{d:Nat}(ih:∀{A:Around}{s:Shared}{x y:PV}{u v:Value},bQ d x=true->bQ d y=true->A.units+d<cLine->VR C W0 s.heap x u->VR C W0 s.heap y v->EqAt A s u v (pT (x=y)))
  {vs ws:S3}{items items2:WA}(r:bR C W0 s.heap vs items.toList)(r2:bR C W0 s.heap ws items2.toList)(hs:vs.all (bQ d)=true)(i3:ws.all (bQ d)=true)(hu:A.units+d<cLine)(j:Nat)(h1:j<items.size)(h2:j<items2.size):
  EqAt A s items[j] items2[j] (pT (vs[j]?=ws[j]?)):=by
 obtain⟨v,e,a⟩:=r.R' h1;obtain⟨w,e2,b⟩:=r2.R' h2;rw[e,e2];have:=ih (aJ.mp hs v (gZ e)) (aJ.mp i3 w (gZ e2)) hu a b;rw[yr (show v=w↔some v=some w from⟨λe=>congrArg some e,λe=>aq e⟩)]at this
 exact this
theorem EqAt.I{A:Around}{s:Shared}{u v:Value}{x y:PV}(h:EqAt A s u v false)(q:x≠y):EqAt A s u v (pT (x=y)):=(yU q).symm▸h
theorem EqAt.J{A:Around}{s:Shared}{u v:Value}{p q:Prop}(h:EqAt A s u v (pT p))(e:p↔q):EqAt A s u v (pT q):=yr e▸h
theorem Dc(d:Nat):∀{A:Around}{s:Shared}{x y:PV}{u v:Value},bQ d x=true->bQ d y=true->A.units+d<cLine->VR C W0 s.heap x u->VR C W0 s.heap y v->EqAt A s u v (pT (x=y)):=
 Nat.strongRecOn (motive:=λd=>∀{A:Around}{s:Shared}{x y:PV}{u v:Value},bQ d x=true->bQ d y=true->A.units+d<cLine->VR C W0 s.heap x u->VR C W0 s.heap y v->EqAt A s u v (pT (x=y))) d λd ih A s x y u v hx hy hu a b=>by
  refine qG hx a (λi t e e2=>?_) (λi t e e2=>?_) λf vs l items e1 e2 e3 o r hs=>?_
  .subst e e2;refine qG hy b (λj t e e2=>?_) (λj t e e2=>?_) λJ J J items J e e2 o J J=>?_ <;>subst e e2
   .exact EqAt.J (Kz i j▸EqAt.int_int _ _ _ _) ⟨λe=>congrArg _ e,λe=>PV.d.inj e⟩
   .exact EqAt.I (.int_str _ _ _ _) λe=>PV.noConfusion e
   .exact EqAt.I (.int_tuple (items:=items) _ _ ⟨_,o.2,rfl,0,rfl⟩ (by exact lS ja jb [.b (.a ja jc) jb] rfl hu)) λe=>PV.noConfusion e
  .subst e e2;refine qG hy b (λj t e e2=>?_) (λj t e e2=>?_) λJ J J items J e e2 o J J=>?_ <;>subst e e2
   .exact EqAt.I (.str_int _ _ _ _) λe=>PV.noConfusion e
   .exact EqAt.J (Kz i j▸EqAt.str_str _ _ _ _) ⟨λe=>congrArg _ e,λe=>PV.k.inj e⟩
   .exact EqAt.I (.str_tuple (items:=items) _ _ ⟨_,o.2,rfl,0,rfl⟩ (by exact lS ja jb [.b (.a ja jc) jb] rfl hu)) λe=>PV.noConfusion e
  .subst e1 e2 e3;refine qG hy b (λj t e e2=>?_) (λj t e e2=>?_) λg ws l2 items2 e4 e2 e3 o2 r2 i3=>?_
   .subst e e2;exact EqAt.I (.tuple_int (items:=items) _ _ ⟨_,o.2,rfl,0,rfl⟩ (by exact lS ja jb [.b (.a ja (.a jc aU)) jb] rfl hu)) λe=>PV.noConfusion e
   .subst e e2;exact EqAt.I (.tuple_str (items:=items) _ _ ⟨_,o.2,rfl,0,rfl⟩ (by exact lS ja jb [.b (.a ja (.a jc aU)) jb] rfl hu)) λe=>PV.noConfusion e
   .cases e4
    subst e2 e3;by_cases Ad:l=l2
    .subst Ad;rw[uZ (VR.inj (f+1) hx hy a b)];exact EqAt.same _
    .have:=RcAt.tuples (A:=A) (s:=s) (l:=l) (b:=l2) (items:=items) (items2:=items2) (e:=λj=>pT (vs[j]?=ws[j]?)) ⟨_,o.2,rfl,0,rfl⟩ ⟨_,o2.2,rfl,0,rfl⟩ (by exact lS ja jb [.b (.a ja (.a jc aU)) jb] rfl hu) (tT (ih f (bD f)) r.1 r2.1 hs i3 (by rw[lg];exact lS (.a (.a ja aU) jb) jc [.b (.a ja (.a jb aU)) jc] rfl hu))
     rw[@Dq _ (Classical.typeDecidableEq _) vs ws _ _ (by rw[r.1.K',aY]) (by rw[r2.1.K',aY]) _ λJ=>rfl]at this
     exact EqAt.J (EqAt.of_refs Ad this) ⟨λe=>congrArg _ e,λe=>PV.f.inj e⟩
end

noncomputable def Sq(w:World)(v:PV):Int:=PV.rec (motive_1:=λJ=>Int) (motive_2:=λJ=>S1) 0 (λJ=>0) hashInt (hashStr w) (λJ r=>reduceHash (Builtin.Tuple.tupleHashOf r)) (λJ J=>0) (λJ J J J=>0) (λJ J J=>0) (λJ J J=>0) (λJ=>0) (λJ=>0) (λJ=>0) [] (λJ J x y=>x::y) v
noncomputable def J5(w:World)(vs:S3):S1:=PV.rec_1 (motive_1:=λJ=>Int) (motive_2:=λJ=>S1) 0 (λJ=>0) hashInt (hashStr w) (λJ r=>reduceHash (Builtin.Tuple.tupleHashOf r)) (λJ J=>0) (λJ J J J=>0) (λJ J J=>0) (λJ J J=>0) (λJ=>0) (λJ=>0) (λJ=>0) [] (λJ J x y=>x::y) vs
noncomputable def DJ(v:PV):Nat:=PV.rec (motive_1:=λJ=>Nat) (motive_2:=λJ=>Nat) 1 (λJ=>1) (λJ=>1) (λJ=>1) (λJ r=>r+1) (λJ J=>1) (λJ J J J=>1) (λJ J J=>1) (λJ J J=>1) (λJ=>1) (λJ=>1) (λJ=>1) 0 (λJ J x y=>x+y) v
noncomputable def yM(vs:S3):Nat:=PV.rec_1 (motive_1:=λJ=>Nat) (motive_2:=λJ=>Nat) 1 (λJ=>1) (λJ=>1) (λJ=>1) (λJ r=>r+1) (λJ J=>1) (λJ J J J=>1) (λJ J J=>1) (λJ J J=>1) (λJ=>1) (λJ=>1) (λJ=>1) 0 (λJ J x y=>x+y) vs
section
variable{C:dX}{w:World}{prog:Program}
abbrev Dr(prog:Program)(w:World)(C:dX)(d:Nat):Prop:=∀{A:Around}{E:Value->Shared->Prop}{s:Shared}{k:PV}{v:Value}{Q:Int->Shared->Prop},bQ d k=true->A.units+d<cLine->VR C W0 s.heap k v->
  Q (Sq w k) {s with toks:=s.toks+DJ k}->wpAny (model prog w) A (pyHash v) Q E s
theorem KN{d:Nat}{A:Around}{E:Value->Shared->Prop}(H:Dr prog w C d)(hu:A.units+d<cLine)
  (f:Value->Array Int->Sem (ForInStep (Array Int)))(hf:∀x r,f x r=(do let y<-pyHash x;pure (ForInStep.yield (r.push y)))){h:Heap}{us:S9}{vs:S3}(hr:bR C W0 h vs us):
  ∀{s:Shared}{acc:Array Int}{Q:Array Int->Shared->Prop},s.heap=h->vs.all (bQ d)=true->(∀r,r.toList=acc.toList++J5 w vs->Q r {s with toks:=s.toks+yM vs})->wpAny (model prog w) A (forIn us acc f) Q E s:=
 bR.J' (P:=λvs us=>∀{s:Shared}{acc:Array Int}{Q:Array Int->Shared->Prop},s.heap=h->vs.all (bQ d)=true->(∀r,r.toList=acc.toList++J5 w vs->Q r {s with toks:=s.toks+yM vs})->wpAny (model prog w) A (forIn us acc f) Q E s)
  (λ{s acc Q} J J q=>by rw[List.forIn_nil];exact wpAny_pure (q acc (az _).symm)) (λv u vs us a b ih s acc Q e hk q=>by
   subst e;rw[List.forIn_cons,hf];obtain⟨h1,h2⟩:=ak.mp hk;refine wpAny_bind (wpAny_bind (H h1 hu a (wpAny_pure (ih (s:= {s with toks:=s.toks+DJ v}) rfl h2 λr hr=>?_))))
   have:=q r (by rw[hr,Array.toList_push,aK];rfl)
   rw[show yM (v::vs)=DJ v+yM vs from rfl,<-dZ]at this
   exact this) hr
theorem PO(d:Nat):Dr prog w C d:=
 Nat.strongRecOn (motive:=λd=>Dr prog w C d) d λd ih A E s k v Q hk hu hr h=>by
  refine qG hk hr (λi t e e2=>?_) (λi t e e2=>?_) λf vs a items e1 e2 e3 o r hs=>?_
  .subst e e2;exact wpAny_pyHash_int h
  .subst e e2;exact wpAny_pyHash_str h
  .subst e1 e2 e3;unfold pyHash;refine pyHash_slot (T:="tuple") ⟨_,o.2,rfl⟩ F.slot_tuple_hash F.entry_tuple_hash (F.args_tuple_hash_1 _) (beq_builtin_none _) (.inr (by exact lS ja jb [.b (.a ja (.a jc aU)) jb] rfl hu)) ?_
   show wpAny _ _ (Builtin.Tuple.tupleItemsOf (.ref a)>>=_) _ _ s;refine wpAny_bind (wpAny_tupleItemsOf o.2 rfl (wpAny_bind ?_));rw[<-Array.forIn_toList];refine KN (ih f (bD f)) (by rw[lg];exact lS (.a (.a ja aU) jb) jc [.b (.a ja (.a jb aU)) jc] rfl hu) _ (λx r=>rfl) r.1 rfl hs λb hb=>?_
   show wpAny _ _ (retInt (Builtin.Tuple.tupleHashOf b.toList)) _ _ _;rw[hb];exact wpAny_bind (wpAny_mkInt (wpAny_pure ⟨_,_,rfl,h⟩))
theorem KL(d:Nat):∀{n:Nat}{A:Around}{E:Value->Shared->Prop}{s:Shared}{x:PV}{u:Value}{Q:Bool->Shared->Prop},d<=n->bQ d x=true->VR C W0 s.heap x u->Q true s->wpAny (model prog w) A (eqIsQuiet n u) Q E s:=
 Nat.strongRecOn (motive:=λd=>∀{n:Nat}{A:Around}{E:Value->Shared->Prop}{s:Shared}{x:PV}{u:Value}{Q:Bool->Shared->Prop},d<=n->bQ d x=true->VR C W0 s.heap x u->Q true s->wpAny (model prog w) A (eqIsQuiet n u) Q E s) d λd ih n A E s x u Q hn hx hr h=>by
  refine qG hx hr (λi t e e2=>?_) (λi t e e2=>?_) λf vs a items e1 e2 e3 o r hs=>?_
  .subst e e2;rw[eqIsQuiet_byValue _ rfl];exact wpAny_pure h
  .subst e e2;rw[eqIsQuiet_byValue _ rfl];exact wpAny_pure h
  .subst e1 e2 e3;obtain⟨n,rfl⟩:∃m,n=m+1:=⟨n-1,(iZ (aA (cA (bI _)) ‹_<=n›)).symm⟩;have hT:s.TypeIs (.ref a) "tuple":=⟨_,o.2,rfl⟩;unfold eqIsQuiet;refine wpAny_bind (wpAny_specialOf hT F.slot_tuple_eq.lookup ?_);show wpAny _ _ (isInstance (.ref a) (.type "tuple")>>=_) _ _ s;refine wpAny_bind (wpAny_isInstance hT isSubtype_tuple_tuple (wpAny_bind (wpAny_seqItems o.2 rfl (wpAny_bind ?_))));show wpAny _ _ (forIn items _ _) _ _ s;rw[<-Array.forIn_toList];refine wpAny_forIn_list _ (λzQ r s'=>r.1=none/\s'=s/\∃xs,xs.all (bQ f)=true/\bR C W0 s.heap xs zQ) _ ?_ ?_ _ _ ⟨rfl,rfl,vs,hs,r.1⟩
   .rintro v zQ r s' ⟨hr,rfl,xs,hk,hxs⟩
    induction xs using aQ with
    |nil=>contradiction
    |cons x xs=>
     obtain⟨J,J,e,h1,h2⟩:=hxs
     cases e
     obtain⟨k1,k2⟩:=ak.mp hk;exact wpAny_bind (ih f (bD f) (by exact mK ja jb [.a (.a ja aU) (.a jb aU)] rfl hn) k1 h1 (wpAny_pure ⟨rfl,rfl,xs,k2,h2⟩))
   .rintro ⟨r1,r2⟩ s' ⟨hq,rfl,J⟩;obtain rfl:=(show r1=none from hq)
    exact wpAny_pure h
noncomputable def j7:DecidableEq PV:=Classical.typeDecidableEq PV
def qI(k:PV):Bool:=bQ 3 k&&k.I.isSome
def lW(C:dX):@HeapKind C.d C.w PV j7:=
 letI:=j7
 {
  is:=λh k a=>qI k=true/\VR C W0 h k (.ref a)
  hash:=Sq C.w
  draws:=DJ
  room:=λA=>A.units+4<cLine
  inj:=λhx hy=>VR.inj 3 (ak.mp hx.1).1 (ak.mp hy.1).1 hx.2 hy.2
  keeps:=λ{h h' k a d o es ep} x ho hd hs=>⟨x.1,x.2.z' (λb items i=>⟨rfl,(hs.2 b (by rintro rfl;have:=ho.symm.trans i.2;obtain rfl:=si this;contradiction)).trans i.2⟩) 3 (ak.mp x.1).1⟩
  pyHash:=λhu hk h=>PO 3 (ak.mp hk.1).1 (by exact fh (.a ja GC) jb [.b (.a ja qz) jb] rfl hu) hk.2 h
  eqBool:=λ{A E s x y a b Q} hu hx hy h=>Dc 3 (ak.mp hx.1).1 (ak.mp hy.1).1 (by exact fh (.a ja GC) jb [.b (.a ja qz) jb] rfl hu) hx.2 hy.2 _ _ _ _ (by unfold pT;exact(Subsingleton.elim (j7 x y) (Classical.propDecidable _))▸h)
  quiet:=λhk h=>KL 3 (by decide) (ak.mp hk.1).1 hk.2 h}
end

section
noncomputable def qP(st:St)(l i:Nat):Option ah:=st.a.reverse[l]?.bind (·[i]?)
def aW(W:Wd)(st:St)(p:Pl):Option ah:=Pl.casesOn p (λi=>st.b[i]?) (λl i=>qP st l i) (λc k=>((st.b[c]?.bind ah.I).bind (·[k]?)).map .a)
 (λi=>st.c[i]?.map λj=>.g 0 ((fZ 0).zip (W.f i)++[(5,.d j)])) λJ=>some .d
def jU(st:St)(p:Pl):Prop:=Pl.casesOn p (λJ=>False) (λl i=>qP st l i=some .d) (λJ J=>False) (λJ=>False) λJ=>False
section
variable (C:dX)
def W6(o:Obj)(xs:aat):Prop:=o.ExactDict/\∃es ep,o.data=.dict es ep/\es.toList=xs.map (@entryOfKey C.d C.w PV j7 (lW C))/\(xs.map (·.1)).Nodup
variable (W:Wd)(h:Heap)
def Uh(vs:S3)(a:Addr):Prop:=∃items n,h.get? a=some (b8 items n)/\bR C W h vs items.toList/\items.size<=100000
def Fa(kvs:S8)(a:Addr):Prop:=∃o cF,h.get? a=some o/\tM C o cF/\kvs.map (·.1)=cF.map (λe=>.d e.1)/\bR C W h (kvs.map (·.2)) (cF.map (·.2))/\cF.length<=100000
def wq(kvs:S8)(a:Addr):Prop:=∃o xs,h.get? a=some o/\W6 C o xs/\kvs.map (·.1)=xs.map (·.1)/\(∀x∈xs,qI x.1=true/\VR C W h x.1 (.ref x.2.1))/\bR C W h (kvs.map (·.2)) (xs.map (·.2.2))/\xs.length<=100000
def IG(p:Pl)(c:Nat)(as:WL)(a:Addr):Prop:=∃dx es n,h.get? a=some (instObj (C.a c) dx)/\W.d dx=some (p,true)/\h.get? dx=some (dictOf es n)/\AK C (as.map (·.1)) es/\bR C W h (as.map (·.2)) (es.map (·.val))
def X7(p:Pl)(eK:List (S3))(a:Addr):Prop:=∃i items n,p=.f i/\h.get? a=some (b8 items n)/\items.size=eK.length/\items.size<=100000/\∀(j:Nat) u,items[j]?=some u->∃b,u=.ref b/\W.d b=some (.e i j,false)
def gr(p:Pl)(c:ah)(a:Addr):Prop:=ah.casesOn c (λvs=>Uh C W h vs a) (λb kvs=>Bool.rec (Fa C W h kvs a) (wq C W h kvs a) b) (λc as=>IG C W h p c as a) (λeK=>X7 W h p eK a) True
structure w4(st:St):Prop where
 i:∀a o,C.b.get? a=some o->qe W h a o
 f:∀a b k,W.d a=some k->W.d b=some k->a=b
 d:∀a k,W.d a=some k->eE h a
 g:∀a t x,W.d a=some (.d t,x)->a=t
 j:∀a p x,W.d a=some (p,x)->∃c,aW W st p=some c/\(x=false->gr C W h p c a)
end
structure Pt(C:dX)where
 W:Wd
 s:Shared
 m:St
 r:w4 C W s.heap m
noncomputable abbrev Pt.I{C:dX}(p:Pt C):Heap:=p.s.heap
variable{C:dX}
def Pass(D:Addr->Prop)(B:Nat->Prop)(a:Addr)(P:Pl):Prop:=(∃l i,P=.b l i/\B l)\/((∃t,P=.d t)/\D a)
structure eY(D:Addr->Prop)(B:Nat->Prop)(p q:Pt C):Prop where
 w:q.s= {p.s with heap:=q.s.heap,toks:=q.s.toks}
 j:∀a o,qe p.W p.I a o->qe q.W q.I a o
 u:∀a k,p.W.d a=some k->q.W.d a=some k\/jU q.m k.1\/Pass D B a k.1
 c:∀a t,p.W.d a=some (.d t,false)->¬D a->q.I.get? a=p.I.get? a
 A:∀a i b,p.W.d a=some (.g i,b)->q.W.f i=p.W.f i
 v:∀k,jU p.m k->jU q.m k\/∃l i,k=.b l i/\B l
 m:q.m.a.length=p.m.a.length
 s:∀a,¬D a->eE p.I a->eE q.I a
abbrev Ah:Addr->Prop:=λJ=>False
abbrev nj:Nat->Prop:=λJ=>False
abbrev Ex(p q:Pt C):Prop:=eY Ah nj p q
variable{D:Addr->Prop}{B:Nat->Prop}{p q r:Pt C}
theorem eY.c'(p:Pt C):eY D B p p:=⟨rfl,λJ J x=>x,λJ J x=>.inl x,λJ J J J=>rfl,λJ J J J=>rfl,λJ x=>.inl x,rfl,λJ J x=>x⟩
theorem eY.O(x:eY D B p q){a:Addr}{P:Pl}{b:Bool}(e:p.W.d a=some (P,b))(h:∀l i,P≠ .b l i)(hd:(∃t,P=.d t)->¬D a):q.W.d a=some (P,b):=by
 rcases x.u a _ e with y|y|⟨l,i,y,J⟩|⟨z,d⟩
 .exact y
 .induction P with
  |b l i=>exact absurd rfl (h l i)
  |_=>exact y.elim
 .exact absurd y (h l i)
 .exact absurd d (hd z)
theorem eY.i'(x:eY D B p q):g9 p.W p.I q.W q.I:=⟨x.j,λa i e=>x.O e (λJ J=>nofun) nofun,λa i e=>⟨x.O e (λJ J=>nofun) nofun,x.A a i _ e⟩⟩
theorem eY.I(x:eY D B p q)(y:eY D B q r):eY D B p r:=
 ⟨by rw[y.w,x.w],λa o z=>y.j a o (x.j a o z),λa k z=>(x.u a k z).elim (y.u a k) λg=>.inr (g.elim (λz=>(y.v _ z).imp id .inl) .inr),λa t z d=>(y.c a t (x.O z (λJ J=>nofun) λJ=>d) d).trans (x.c a t z d),
  λa i b z=>(y.A a i b (x.O z (λJ J=>nofun) nofun)).trans (x.A a i b z),λk z=>(x.v k z).elim (y.v k) .inr,y.m.trans x.m,λa d z=>y.s a d (x.s a d z)⟩
theorem eY.d'(x:eY D B p q){a:Addr}(d:¬D a)(e:q.I.get? a=none):p.I.get? a=none:=by
 induction z:p.I.get? a with
 |none=>rfl
 |some o=>
  have:=x.s a d (bS z);unfold eE at this
  rw[e]at this
  exact ft this
theorem eY.V{D':Addr->Prop}{B':Nat->Prop}(x:eY D B p q)(h:∀a,D a->D' a\/p.I.get? a=none)(hB:∀l,B l->B' l):eY D' B' p q:=
 have no:∀{a},eE p.I a->p.I.get? a=none->False:=λl n=>by unfold eE at l;rw[n]at l;exact ft l
 {x with
  c:=λa t e d=>x.c a t e λz=>(h a z).elim d (no (p.r.d a _ e))
  u:=λa k e=>(x.u a k e).imp id λg=>g.imp id λg=>g.imp (λ⟨l,i,e,b⟩=>⟨l,i,e,hB l b⟩) λz=>⟨z.1,(h a z.2).elim id λn=>(no (p.r.d a _ e) n).elim⟩
  v:=λk g=>(x.v k g).imp id λ⟨l,i,e,b⟩=>⟨l,i,e,hB l b⟩
  s:=λa d l=>x.s a (λz=>(h a z).elim d (no l)) l}
theorem eY.e'(x:Ex p q):eY D B p q:=x.V (λJ f=>f.elim) λJ f=>f.elim
def VM(p:Pt C)(v:MV):Value->Prop:=MV.casesOn v (λv=>VR C p.W p.I v) (λd i u=>d<p.m.a.length/\(jU p.m (.b (p.m.a.length-1-d) i)\/sD p.W (.b (p.m.a.length-1-d) i) u)) λc k=>sD p.W (.e c k)
theorem VR.v'(x:eY D B p q){v:PV}{u:Value}(y:VR C p.W p.I v u):VR C q.W q.I v u:=VR.u' x.i' v u y
theorem bR.G'(x:eY D B p q){v:S3}{u:S9}(y:bR C p.W p.I v u):bR C q.W q.I v u:=bR.H' x.i' v u y
theorem VM.ab'(x:eY D nj p q){v:MV}{u:Value}(y:VM p v u):VM q v u:=by
 induction v with
 |a v=>exact VR.v' x y
 |b d i=>
  obtain⟨hd,y⟩:=y;refine⟨x.m▸hd,?_⟩;rw[x.m];rcases y with y|⟨a,e,o⟩
  .exact .inl ((x.v _ y).elim id λ⟨_,_,_,f⟩=>f.elim)
  .rcases x.u a _ o with o|o|⟨J,J,J,o⟩|⟨⟨J,o⟩,J⟩
   .exact .inr ⟨a,e,o⟩
   .exact .inl o
   .exact o.elim
   .exact nomatch o
 |e c k=>obtain⟨a,e,o⟩:=y;exact⟨a,e,x.O o (λJ J=>nofun) nofun⟩
section
variable{W W':Wd}{h h':Heap}{st cU:St}{a:Addr}{P:Pl}
def Own(W:Wd)(h:Heap)(W':Wd)(h':Heap)(P:Pl):Prop:=∀b x,W.d b=some (P,x)->W'.d b=some (P,x)/\h'.get? b=h.get? b
theorem gr.go(X:g9 W h W' h')(ho:Own W h W' h' P)(hi:∀b c k,W.d b=some (.e c k,false)->W'.d b=some (.e c k,false))(ha:W.d a=some (P,false)){c:ah}(x:gr C W h P c a):gr C W' h' P c a:=by
 have e:=(ho a _ ha).2
 induction c with
 |a vs=>obtain⟨items,n,g,r,z⟩:=x;exact⟨items,n,e.trans g,bR.H' X _ _ r,z⟩
 |e b kvs=>
  induction b with
  |false=>obtain⟨o,cF,g,d,k,r,z⟩:=x;exact⟨o,cF,e.trans g,d,k,bR.H' X _ _ r,z⟩
  |true=>obtain⟨o,xs,g,d,k,r1,r2,z⟩:=x;exact⟨o,xs,e.trans g,d,k,λx hx=>⟨(r1 x hx).1,VR.u' X _ _ (r1 x hx).2⟩,bR.H' X _ _ r2,z⟩
 |g c as=>obtain⟨dx,es,n,g,o,g2,k,r⟩:=x;obtain⟨o',e2⟩:=ho dx _ o;exact⟨dx,es,n,e.trans g,o',e2.trans g2,k,bR.H' X _ _ r⟩
 |f eK=>
  obtain⟨i,items,n,p,g,z1,z2,k⟩:=x;refine⟨i,items,n,p,e.trans g,z1,z2,λj u hj=>?_⟩
  obtain⟨b,e1,e2⟩:=k j u hj;exact⟨b,e1,hi b _ _ e2⟩
 |d=>trivial
def Fd(c c':ah):Prop:=c=c'\/∃x y,c=.f x/\c'=.f y/\x.length=y.length
theorem gr.aa'{c c':ah}(e:Fd c c')(x:gr C W h P c a):gr C W h P c' a:=by
 rcases e with rfl|⟨s,t,rfl,rfl,e⟩
 .exact x
 .obtain⟨i,items,n,p,g,z1,z⟩:=x;exact⟨i,items,n,p,g,z1.trans e,z⟩
theorem w4.I(R:w4 C W h st)(o:W.d a=some (P,false)):∃c,aW W st P=some c/\gr C W h P c a:=by obtain⟨c,e,r⟩:=R.j a P false o;exact⟨c,e,r rfl⟩
theorem w4.O(R:w4 C W h st)(X:g9 W h W' h')(hi:∀b c k,W.d b=some (.e c k,false)->W'.d b=some (.e c k,false))(hu:∀a b k,W'.d a=some k->W'.d b=some k->a=b)(hl:∀a k,W'.d a=some k->au.eE h' a)(ht:∀a t x,W'.d a=some (.d t,x)->a=t)
  (hc:∀a P x,W'.d a=some (P,x)->(W.d a=some (P,x)/\Own W h W' h' P/\∀c,aW W st P=some c->∃c',aW W' cU P=some c'/\Fd c c')\/∃c,aW W' cU P=some c/\(x=false->gr C W' h' P c a)):w4 C W' h' cU:=by
 refine⟨λa o e=>X.b a o (R.i a o e),hu,hl,ht,λa P x e=>?_⟩
 rcases hc a P x e with⟨o,w,k⟩|z
 .obtain⟨c,e1,r⟩:=R.j a P x o;obtain⟨c',e2,l⟩:=k c e1;exact⟨c',e2,λhx=>((r hx).go X w hi (hx▸o)).aa' l⟩
 .exact z
end
end

variable{B:Nat->Prop}
def dY(h h':Heap):Prop:=∀a o,h.get? a=some o->h'.get? a=some o
theorem dY.aj'(h:Heap)(o:Obj):dY h (h.push o):=λa o' e=>dU o e
theorem dY.am'{h2:Heap}(x:dY h h')(y:dY h' h2):dY h h2:=λa o e=>y a o (x a o e)
theorem dY.lv(x:dY h h')(l:eE h a):eE h' a:=by obtain⟨o,e⟩:=bz.mp l;exact bS (x a o e)
theorem dY.ak'(x:dY h h')(l:eE h a):h'.get? a=h.get? a:=by obtain⟨o,e⟩:=bz.mp l;rw[e];exact x a o e
theorem dY.al'(x:dY h h')(e:h'.get? a=none):h.get? a=none:=by
 induction q:h.get? a with
 |none=>rfl
 |some o=>rw[x a o q]at e;exact sn e
theorem Pt.V(p:Pt C)(e:p.I.get? a=none):p.W.d a=none:=by
 induction q:p.W.d a with
 |none=>rfl
 |some k=>exact absurd (p.r.d a k q) (by unfold eE;rw[e];exact aO)
theorem Pt.v'(p:Pt C){k:Pl×Bool}(e:p.W.d a=some k):C.b.get? a=none:=by
 induction q:C.b.get? a with
 |none=>rfl
 |some o=>have:=(p.r.i a o q).1;rw[e]at this;exact sn this
theorem nq(c:ah)(e:aW W st P=some c):∃c',aW W st P=some c'/\Fd c c':=⟨c,e,.inl rfl⟩
noncomputable def Pt.m'(p:Pt C)(h':Heap)(tk:Nat)(g:dY p.I h'):Pt C:=⟨p.W,{p.s with heap:=h',toks:=tk},p.m,p.r.O ⟨λa o x=>⟨x.1,g a o x.2⟩,λJ J x=>x,λJ J x=>⟨x,rfl⟩⟩ (λJ J J x=>x) p.r.f (λa k e=>g.lv (p.r.d a k e)) p.r.g λa P y e=>.inl ⟨e,λb x q=>⟨q,g.ak' (p.r.d b _ q)⟩,nq⟩⟩
theorem Pt.g'(p:Pt C)(h':Heap)(tk:Nat)(g:dY p.I h'):eY D B p (p.m' h' tk g):=⟨rfl,λa o x=>⟨x.1,g a o x.2⟩,λa k e=>.inl e,λa t e J=>g.ak' (p.r.d a _ e),λJ J J J=>rfl,λJ x=>.inl x,rfl,λJ J=>g.lv⟩
noncomputable def Wd.I(W:Wd)(a:Addr)(k:aaa):Wd:= {W with d:=λb=>if b=a then k else W.d b}
theorem Wd.O(W:Wd)(a:Addr)(k:aaa):(W.I a k).d a=k:=if_pos rfl
theorem Wd.J(W:Wd){b:Addr}(k:aaa)(h:b≠a):(W.I a k).d b=W.d b:=if_neg h
theorem iO{b:Addr}{k:Pl×Bool}(ha:W.d a=none)(hb:W.d b=some k):b≠a:=λe=>by subst e;rw[ha]at hb;exact nn hb
theorem sR{b:Addr}(na:h.get? a=none)(x:qe W h b o):b≠a:=λq=>by
 have:=x.2;rw[q,na]at this
 exact nn this
theorem Wd.V{b:Addr}{k:aaa}{k':Pl×Bool}(e:(W.I a k).d b=some k'):(b=a/\k=some k')\/(b≠a/\W.d b=some k'):=by
 by_cases q:b=a
 .subst q;rw[Wd.O]at e;exact .inl ⟨rfl,e⟩
 .rw[Wd.J _ _ q]at e;exact .inr ⟨q,e⟩
theorem Wd.d'{a:Addr}{k:aaa}(u:∀a b k,W.d a=some k->W.d b=some k->a=b)(hk:∀b k',b≠a->k=some k'->W.d b≠some k'):∀b c k',(W.I a k).d b=some k'->(W.I a k).d c=some k'->b=c:=by
 intro b c k' x y;rcases Wd.V x with⟨x1,x2⟩|⟨x1,x2⟩<;>rcases Wd.V y with⟨y1,y2⟩|⟨y1,y2⟩
 .exact x1.trans y1.symm
 .exact absurd y2 (hk c k' y1 x2)
 .exact absurd x2 (hk b k' x1 y2)
 .exact u b c k' x2 y2
noncomputable def Pt.d'(p:Pt C)(h':Heap)(tk:Nat)(g:dY p.I h')(a:Addr)(na:p.I.get? a=none)(la:eE h' a):Pt C:=
 ⟨p.W.I a (some (.d a,false)),{p.s with heap:=h',toks:=tk},p.m,by
  have nn:∀b k,p.W.d b=some k->(p.W.I a (some (.d a,false))).d b=some k:=λb k e=>(Wd.J _ _ (iO (p.V na) e)).trans e
  refine p.r.O ⟨λb o x=>⟨(Wd.J _ _ (sR na x)).trans x.1,g b o x.2⟩,λb i x=>nn b _ x,λb i x=>⟨nn b _ x,rfl⟩⟩ (λb c k x=>nn b _ x) (Wd.d' p.r.f λb k n e x=>n (by obtain rfl:=si e;exact p.r.g b _ _ x)) (λb k e=>?_) (λb t x e=>?_) λb P y e=>?_
  .rcases Wd.V e with⟨e,J⟩|⟨J,e⟩
   .exact e▸la
   .exact g.lv (p.r.d b k e)
  .rcases Wd.V e with⟨e,q⟩|⟨J,e⟩
   .cases q;assumption
   .exact p.r.g b t x e
  .rcases Wd.V e with⟨e,q⟩|⟨J,e⟩
   .obtain⟨rfl,rfl⟩:=u7 q;exact .inr ⟨.d,rfl,λJ=>trivial⟩
   .exact .inl ⟨e,λc x q=>⟨nn c _ q,g.ak' (p.r.d c _ q)⟩,nq⟩⟩
theorem Pt.f'(p:Pt C)(h':Heap)(tk:Nat)(g:dY p.I h')(a:Addr)(na:p.I.get? a=none)(la:eE h' a):eY D B p (p.d' h' tk g a na la):=
 have nn:∀b k,p.W.d b=some k->(p.W.I a (some (.d a,false))).d b=some k:=λb k e=>(Wd.J _ _ (iO (p.V na) e)).trans e
 ⟨rfl,λb o x=>⟨(Wd.J _ _ (sR na x)).trans x.1,g b o x.2⟩,λb k e=>.inl (nn b k e),λb t e J=>g.ak' (p.r.d b _ e),λJ J J J=>rfl,λJ x=>.inl x,rfl,λJ J=>g.lv⟩
noncomputable def Pt.o'(p:Pt C)(a:Addr)(ha:p.W.d a=some (.d a,false))(k:aaa)(nv:Nat->S3)(cU:St)(hn:∀b i x,p.W.d b=some (.g i,x)->nv i=p.W.f i)(hk:∀b P x,k=some (P,x)->p.W.d b≠some (P,x))(ht:∀t x,k≠some (.d t,x))
  (hc:∀P x,k=some (P,x)->∃c,aW ⟨(p.W.I a k).d,nv⟩ cU P=some c/\(x=false->gr C ⟨(p.W.I a k).d,nv⟩ p.I P c a))(hs:∀b P x,p.W.d b=some (P,x)->∀c,aW p.W p.m P=some c->∃c',aW ⟨(p.W.I a k).d,nv⟩ cU P=some c'/\Fd c c'):Pt C:=
 ⟨⟨(p.W.I a k).d,nv⟩,p.s,cU,by
  have nn:∀b k',k'≠(.d a,false)->p.W.d b=some k'->(p.W.I a k).d b=some k':=λb k' n e=>(Wd.J _ _ λq=>n (by subst q;rw[ha]at e;exact(aq e).symm)).trans e
  have im:∀b,p.W.d b=none->(p.W.I a k).d b=none:=λb e=>(Wd.J _ _ λq=>by subst q;rw[ha]at e;exact sn e).trans e
  refine p.r.O ⟨λb o x=>⟨im b x.1,x.2⟩,λb i x=>nn b _ (λe=>nomatch e) x,λb i x=>⟨nn b _ (λe=>nomatch e) x,hn b i _ x⟩⟩ (λb c k x=>nn b _ (λe=>nomatch e) x) (Wd.d' p.r.f λb k' n e x=>hk b _ _ e x) (λb k' e=>?_) (λb t x e=>?_) λb P y e=>?_
  .rcases Wd.V e with⟨e,J⟩|⟨J,e⟩
   .exact e▸p.r.d a _ ha
   .exact p.r.d b k' e
  .rcases Wd.V e with⟨e,q⟩|⟨J,e⟩
   .exact absurd q (ht t x)
   .exact p.r.g b t x e
  .rcases Wd.V e with⟨e,q⟩|⟨n,e⟩
   .exact .inr (e▸hc P y q)
   .refine .inl ⟨e,λc x q=>⟨nn c _ (λz=>?_) q,rfl⟩,hs b P _ e⟩
    have hP:P=.d a:=congrArg Prod.fst z;exact n (p.r.g b a y (hP▸e))⟩
theorem Pt.u'(p:Pt C)(ha k nv cU hn hk ht hc hs)(i5:∀k,jU p.m k->jU cU k\/∃l i,k=.b l i/\B l)(hl:cU.a.length=p.m.a.length):eY (λb=>b=a) B p (p.o' a ha k nv cU hn hk ht hc hs):=
 have ne:∀{b k'},p.W.d b=some k'->k'≠(.d a,false)->b≠a:=λe n z=>by rw[z,ha]at e;exact n (aq e).symm
 ⟨rfl,λb x y=>⟨(Wd.J _ _ λz=>by have:=y.1;rw[z,ha]at this;exact sn this).trans y.1,y.2⟩,λb k' e=>by
  by_cases z:b=a
  .rw[z,ha]at e
   obtain rfl:=si e;exact .inr (.inr (.inr ⟨⟨a,rfl⟩,z⟩))
  .exact .inl ((Wd.J _ _ z).trans e),λJ J J J=>rfl,λb i x e=>hn b i x e,i5,hl,λJ J z=>z⟩
theorem eY.f'{D':Addr->Prop}{p0 p q:Pt C}(E:eY D B p0 p)(E2:eY D' B p q)(n:∀a,D' a->D a\/p0.I.get? a=none):eY D B p0 q:=((E.V (D':=λb=>D b\/D' b) (λJ z=>.inl (.inl z)) λJ z=>z).I (E2.V (λJ z=>.inl (.inr z)) λJ z=>z)).V (λa z=>z.elim .inl (n a)) λJ z=>z
theorem Pt.z'{p0 p:Pt C}(E:eY D B p0 p)(na:p0.I.get? a=none)(ha k nv cU hn hk ht hc hs)(i5:∀k,jU p.m k->jU cU k)(hl:cU.a.length=p.m.a.length):eY D B p0 (p.o' a ha k nv cU hn hk ht hc hs):=E.f' (p.u' ha k nv cU hn hk ht hc hs (λk z=>.inl (i5 k z)) hl) λb z=>.inr (z▸na)

theorem lz:∀(r:V5)(d i:Nat)(c:ah),(eV r d i c).length=r.length
 |[],_,_,_=>rfl
 |_::_,0,_,_=>rfl
 |_::r,d+1,i,c=>congrArg Nat.succ (lz r d i c)
theorem FG:∀(r:V5)(d i:Nat)(c:ah)(e:Nat),e≠d->(eV r d i c)[e]?=r[e]?
 |[],_,_,_,_,_=>rfl
 |_::_,0,_,_,0,h=>absurd rfl h
 |_::_,0,_,_,_+1,_=>rfl
 |_::_,_+1,_,_,0,_=>rfl
 |_::r,d+1,i,c,e+1,h=>FG r d i c e λq=>h (congrArg Nat.succ q)
theorem zm:∀(r:V5)(d i:Nat)(c:ah),(eV r d i c)[d]?=r[d]?.map (·.set i c)
 |[],0,_,_=>rfl
 |[],_+1,_,_=>rfl
 |_::_,0,_,_=>rfl
 |_::r,d+1,i,c=>zm r d i c
theorem zp(h:l<st.a.length)(i:Nat):qP st l i=st.a[st.a.length-1-l]?.bind (·[i]?):=by unfold qP;rw[List.getElem?_reverse h]
theorem zq(h:d<n):n-1-(n-1-d)=d:=Nat.sub_sub_self (Nat.le_sub_one_of_lt h)
theorem JR(h:d<n):n-1-d<n:=bB (Nat.sub_le _ _) (Nat.sub_one_lt_of_lt h)
theorem Vi(z:l<n)(e:n-1-l=d):l=n-1-d:=e▸(zq z).symm
theorem Mm{u:Nat}(l1:u<=n)(l2:n<=u+d):u+(d-(u+d-n))=n:=xw (m:=u+d-n) (by rw[dZ,iZ (om (fE d u▸bY l1 d)),kK l2])
theorem vB(h:d<st.a.length)(i:Nat):qP st (st.a.length-1-d) i=st.a[d]?.bind (·[i]?):=by rw[zp (JR h),zq h]
structure lD(W:Wd)(st cU:St)(P:Pl)(c:ah):Prop where
 a:aW W cU P=some c
 b:∀Q,Q≠P->∀c,aW W st Q=some c->∃c',aW W cU Q=some c'/\Fd c c'
 e:∀k,jU st k->jU cU k
 d:cU.a.length=st.a.length
theorem pM{o:Option ah}{o':Option ah}(e:o'=o)(c:ah)(h:o=some c):∃c',o'=some c'/\Fd c c':=⟨c,e.trans h,.inl rfl⟩
theorem zy{c':ah}(h:st.a[d]?.bind (·[i]?)=some c)(hd:c≠ .d):lD W st (st.I (eV · d i c')) (.b (st.a.length-1-d) i) c':=by
 obtain⟨pm,rg,ni⟩:=st;have hl:d<rg.length:=by
  rcases pG d rg.length with q|q
  .exact q
  .rw[show(St.mk pm rg ni).a[d]?=none from aV q]at h;exact nn h
 have ne:∀l j,¬(l=rg.length-1-d/\j=i)->qP ⟨pm,eV rg d i c',ni⟩ l j=qP ⟨pm,rg,ni⟩ l j:=λl j q=>by
  rcases pG l rg.length with z|z
  .rw[zp (show l<(eV rg d i c').length by rw[lz];exact z),zp (st:=⟨pm,rg,ni⟩) z]
   show(eV rg d i c')[(eV rg d i c').length-1-l]?.bind _=rg[rg.length-1-l]?.bind _;rw[lz];by_cases e:rg.length-1-l=d
   .rw[e,zm];have hj:j≠i:=λy=>q ⟨Vi z e,y⟩
    induction rg[d]? with
    |none=>rfl
    |some r=>exact bG (gE hj)
   .rw[FG _ _ _ _ _ e]
  .unfold qP;rw[aV (by rw[cM];exact(lz rg d i c').symm▸z),aV (by rw[cM];exact z)]
 refine⟨?_,λQ hQ c h=>?_,λk g=>?_,lz ..⟩
 .show qP ⟨pm,eV rg d i c',ni⟩ _ i=_;rw[show(St.mk pm rg ni).a.length-1-d=(St.mk pm (eV rg d i c') ni).a.length-1-d from congrArg (· -1-d) (lz ..).symm,vB (show d<(eV rg d i c').length by rw[lz];exact hl)]
  show(eV rg d i c')[d]?.bind (·[i]?)=_;rw[zm];change rg[d]?.bind (·[i]?)=some c at h
  induction e:rg[d]? with
  |none=>rw[e]at h;exact nn h
  |some r=>
   rw[e]at h
   show(r.set i c')[i]?=_;rw[bJ (aL.mp h).1]
 .induction Q with
  |b l j=>exact pM (ne l j λq=>hQ (by rw[q.1,q.2])) c h
  |_=>exact⟨c,h,.inl rfl⟩
 .induction k with
  |b l j=>
   by_cases q:l=rg.length-1-d/\j=i
   .exact absurd ((show qP ⟨pm,rg,ni⟩ l j=some .d from g).symm.trans (by rw[q.1,q.2];exact(vB (st:=⟨pm,rg,ni⟩) hl i).trans h)) λe=>hd (aq e).symm
   .exact(ne l j q).trans g
  |_=>exact g.elim
theorem Vj{c':ah}(h:st.b[i]?=some c)(hn:c.I=none):lD W st (st.J (·.set i c')) (.f i) c':=by
 obtain⟨pm,rg,ni⟩:=st;refine⟨bJ (aL.mp h).1,λQ hQ c2 e=>?_,λk g=>?_,rfl⟩
 .induction Q with
  |f j=>exact pM (bG λq=>hQ (congrArg Pl.f q.symm)) c2 e
  |e j k=>
   refine pM (o:=aW W ⟨pm,rg,ni⟩ (.e j k)) ?_ c2 e;show(((pm.set i c')[j]?.bind ah.I).bind (·[k]?)).map ah.a=((pm[j]?.bind ah.I).bind (·[k]?)).map ah.a;by_cases q:i=j
   .subst q;change((pm[i]?.bind ah.I).bind (·[k]?)).map ah.a=some c2 at e
    rw[show pm[i]?=some c from h]at e
    change(c.I.bind (·[k]?)).map ah.a=some c2 at e
    rw[hn]at e
    exact nn e
   .rw[bG q]
  |_=>exact⟨c2,e,.inl rfl⟩
 .induction k<;>exact g
theorem Qz{Cv:S3}(h:st.b[i]?=some (.f eK))(hj:eK[j]?=some vs):lD W st (st.J (·.set i (.f (eK.set j Cv)))) (.e i j) (.a Cv):=by
 obtain⟨pm,rg,ni⟩:=st;have hi:=(aL.mp h).1;refine⟨?_,λQ hQ c2 e=>?_,λk g=>?_,rfl⟩
 .show(((pm.set i (.f (eK.set j Cv)))[i]?.bind ah.I).bind (·[j]?)).map ah.a=_;rw[bJ hi];show((eK.set j Cv)[j]?).map ah.a=_;rw[bJ (aL.mp hj).1];rfl
 .induction Q with
  |f k=>
   by_cases q:i=k
   .subst q;obtain rfl:=si ((show some (ah.f eK)=some c2 from h.symm.trans e))
    exact⟨_,bJ hi,.inr ⟨_,_,rfl,rfl,List.length_set.symm⟩⟩
   .exact pM (bG q) c2 e
  |e k l=>
   refine pM (o:=aW W ⟨pm,rg,ni⟩ (.e k l)) ?_ c2 e;show(((pm.set i (.f (eK.set j Cv)))[k]?.bind ah.I).bind (·[l]?)).map ah.a=((pm[k]?.bind ah.I).bind (·[l]?)).map ah.a;by_cases q:i=k
   .subst q;rw[bJ hi,show pm[i]?=_ from h]
    show((eK.set j Cv)[l]?).map ah.a=(eK[l]?).map ah.a;rw[bG λe=>hQ (by rw[e])]
   .rw[bG q]
  |_=>exact⟨c2,e,.inl rfl⟩
 .induction k<;>exact g
theorem Vk{j j':Int}(h:st.c[i]?=some j):lD W st (st.O (·.set i j')) (.g i) (.g 0 ((fZ 0).zip (W.f i)++[(5,.d j')])):=by
 obtain⟨pm,rg,ni⟩:=st;refine⟨?_,λQ hQ c2 e=>?_,λk g=>?_,rfl⟩
 .show((ni.set i j')[i]?).map _=_;rw[bJ (aL.mp h).1];rfl
 .induction Q with
  |g k=>refine pM (o:=aW W ⟨pm,rg,ni⟩ (.g k)) ?_ c2 e;show((ni.set i j')[k]?).map _=(ni[k]?).map _;rw[bG λe=>hQ (by rw[e])]
  |_=>exact⟨c2,e,.inl rfl⟩
 .induction k<;>exact g
noncomputable def Pt.q'(p:Pt C)(h':Heap)(tk:Nat)(d:Addr)(P:Pl)(x:Bool)(c:ah)(cU:St)(hd:p.W.d d=some (P,x))(hP:∀t,P≠ .d t)(hs:Heap.SameBut d p.I h')(ld:eE h' d)(pa:lD p.W p.m cU P c)
  (hc:g9 p.W p.I p.W h'->(∀b,b≠d->h'.get? b=p.I.get? b)->∀a,p.W.d a=some (P,false)->gr C p.W h' P c a):Pt C:=
 ⟨p.W,{p.s with heap:=h',toks:=tk},cU,by
  have K:g9 p.W p.I p.W h':=⟨λa o y=>⟨y.1,(hs.2 a λq=>by rw[q,qe,hd]at y;exact sn y.1).trans y.2⟩,λJ J x=>x,λJ J x=>⟨x,rfl⟩⟩
  refine p.r.O K (λJ J J x=>x) p.r.f (λa k e=>?_) p.r.g λa Q w e=>?_
  .by_cases q:a=d
   .exact q▸ld
   .unfold eE;rw[hs.2 a q];exact p.r.d a k e
  .by_cases q:Q=P
   .subst q;exact .inr ⟨c,pa.a,λhw=>hc K hs.2 a (hw▸e)⟩
   .exact .inl ⟨e,λb y z=>⟨z,hs.2 b λw=>by subst w;rw[hd]at z;cases z;exact q rfl⟩,pa.b Q q⟩⟩
theorem Pt.s'(p:Pt C)(h':Heap)(tk:Nat)(d:Addr)(P:Pl)(x:Bool)(c:ah)(cU:St)(hd hP hs ld pa hc):eY D B p (p.q' h' tk d P x c cU hd hP hs ld pa hc):=
 ⟨rfl,λa o y=>⟨y.1,(hs.2 a λq=>by rw[q,qe,hd]at y;exact sn y.1).trans y.2⟩,λa k e=>.inl e,λa t e J=>hs.2 a λq=>by subst q;rw[hd]at e;obtain⟨rfl,rfl⟩:=u7 e;exact hP t rfl,λJ J J J=>rfl,λk g=>.inl (pa.e k g),pa.d,λa J l=>by
  by_cases q:a=d
  .exact q▸ld
  .exact(show(h'.get? a).isSome=true from(hs.2 a q).symm▸l)⟩
theorem VM.ac'{p:Pt C}{v:MV}(x:VM p v u)(e:l9 p.m v=some c)(hc:c≠ .d)(hn:c.I=none):
  ∃a P,u=.ref a/\p.W.d a=some (P,false)/\(∀t,P≠ .d t)/\gr C p.W p.I P c a/\∀c',lD p.W p.m (pA p.m v c') P c':=by
 have eF:∀{P:Pl}{a:Addr},p.W.d a=some (P,false)->aW p.W p.m P=some c->gr C p.W p.I P c a:=λ{P a} o q=>by obtain⟨c',e1,r⟩:=p.r.I o;obtain rfl:=aq (q.symm.trans e1);exact r
 induction v with
 |a v=>induction v using PV.casesOn with
  |e i=>obtain⟨a,e1,o⟩:=x;exact⟨a,.f i,e1,o,λJ=>nofun,eF o e,λc'=>Vj e hn⟩
  |_=>exact nn e
 |b d i=>
  obtain⟨hd,x⟩:=x;have q:=vB hd i;rcases x with x|⟨a,e1,o⟩
  .exact absurd ((show qP _ _ i=some .d from x).symm.trans (q.trans e)) λz=>hc (aq z).symm
  .exact⟨a,_,e1,o,λJ=>nofun,eF o (q.trans e),λc'=>zy e hc⟩
 |e=>exact nn e

section
variable{C:dX}{p:Pt C}{W:Wd}{h:Heap}
theorem bR.F'{vs:S3}{items:WA}(x:bR C W h vs items.toList):vs.length=items.size:=x.K'.trans aY
theorem xJ{c:ah}{vs:S3}(e:c.J=some vs):c=.a vs:=by induction c<;>first|exact congrArg _ (aq e)|exact nomatch (show none=some vs from e)
theorem Td{c:ah}{b:Bool}{kvs:S8}(e:c.V=some (b,kvs)):c=.e b kvs:=by induction c<;>first|(cases e;rfl)|exact nomatch (show none=some (b,kvs)from e)
theorem yL{c:ah}{eK:List (S3)}(e:c.I=some eK):c=.f eK:=by induction c<;>first|exact congrArg _ (aq e)|exact nomatch (show none=some eK from e)
theorem yQ{c:ah}{x:Nat×WL}(e:c.O=some x):c=.g x.1 x.2:=by induction c<;>first|(cases e;rfl)|exact nomatch (show none=some x from e)
def XF(p:Pt C)(vs:S3)(u:Value):Prop:=∃a items n,u=.ref a/\p.I.get? a=some (b8 items n)/\bR C p.W p.I vs items.toList/\items.size<=100000
theorem XF.ax'{G:Prop}{vs:S3}{u:Value}(x:XF p vs u)(k:∀a items n,u=.ref a->p.I.get? a=some (b8 items n)->bR C p.W p.I vs items.toList->items.size<=100000->G):G:=by obtain⟨a,items,n,e,g,r,z⟩:=x;exact k a items n e g r z
theorem VM.ah'{v:MV}{u:Value}{vs:S3}(x:VM p v u)(e:(l9 p.m v).bind ah.J=some vs):XF p vs u:=by
 obtain⟨c,e1,e2⟩:=fC e;obtain rfl:=xJ e2;obtain⟨a,P,q,J,J,⟨items,n,g,r,z⟩,J⟩:=x.ac' e1 (λe=>nomatch e) rfl
 exact⟨a,items,n,q,g,r,z⟩
theorem J1{v:PV}{vs:S3}(h:v.i'=some vs):v=.j vs:=by induction v using PV.casesOn<;>first|exact congrArg _ (aq h)|exact nomatch (show none=some vs from h)
theorem Ky{v:PV}{p:S3×S3}(h:v.e'=some p):v=.o p.1 p.2:=by induction v using PV.casesOn<;>first|(cases h;rfl)|exact nomatch (show none=some p from h)
theorem Di{v:MV}{p:Nat×Nat}(h:v.V=some p):v=.e p.1 p.2:=by induction v<;>first|(cases h;rfl)|exact nomatch (show none=some p from h)
theorem lZ{α:Type}{f:PV->Option α}{v:MV}{a:α}{x:PV}(hf:∀{p},f p=some a->p=x)(h:v.I.bind f=some a):v=.a x:=by obtain⟨p,e1,e2⟩:=fC h;exact(DA e1).trans (congrArg _ (hf e2))
theorem VM.ls{v:MV}{u:Value}{vs:S3}(x:VM p v u)(h:iI p.m v=some vs):XF p vs u:=
 lJ h (λh=>lJ h x.ah' λq e h=>by
  rw[Di e]at x
  obtain⟨a,e1,o⟩:=x;obtain⟨c',e2,r⟩:=p.r.I o;obtain rfl:=si (e2.symm.trans (congrArg (·.map ah.a) h));obtain⟨items,n,g,r,z⟩:=r;exact⟨a,items,n,e1,g,r,z⟩) λws e h=>by
  obtain rfl:=si h;rw[lZ J1 e]at x
  obtain⟨a,items,n,q,g,r,z⟩:=x;exact⟨a,items,n,q,g.2,r,by rwa [aY]at z⟩
section
variable (C W h)
variable{K:Type}(enc:K->PV)
def lU(kvs:S8)(cF:List (K×Value)):Prop:=kvs.map (·.1)=cF.map (λe=>enc e.1)/\bR C W h (kvs.map (·.2)) (cF.map (·.2))
end
section
variable{K:Type}{enc:K->PV}
theorem lU.au'{P:S8->List (K×Value)->Prop}(n:P [] [])(c:∀i v u kvs cF,VR C W h v u->lU C W h enc kvs cF->P kvs cF->P ((enc i,v)::kvs) ((i,u)::cF)){kvs:S8}:∀{cF:List (K×Value)},lU C W h enc kvs cF->P kvs cF:=by
 induction kvs with
 |nil=>
  intro cF x
  induction cF using aQ with
  |nil=>exact n
  |cons J J=>cases x.1
 |cons e kvs ih=>
  intro cF x
  induction cF using aQ with
  |nil=>cases x.1
  |cons f cF=>
   obtain⟨k,u,r,e1,a,b⟩:=x
   cases e1
   obtain⟨k1,k2⟩:=fF k;obtain⟨e,v⟩:=e;obtain rfl:=(show e=enc f.1 from k1)
   exact c f.1 v f.2 kvs cF a ⟨k2,b⟩ (ih ⟨k2,b⟩)
theorem lU.aq'{i:K}{v:PV}{u:Value}{kvs:S8}{cF:List (K×Value)}(a:VR C W h v u)(x:lU C W h enc kvs cF):lU C W h enc ((enc i,v)::kvs) ((i,u)::cF):=⟨congrArg (enc i:: ·) x.1,.I' a x.2⟩
theorem lU.aw'{kvs:S8}{cF:List (K×Value)}(x:lU C W h enc kvs cF):kvs.length=cF.length:=by simpa using congrArg List.length x.1
def Nu(C:dX)(W:Wd)(h:Heap)(o:aaf)(o':V9):Prop:=(o=none/\o'=none)\/∃v u,o=some v/\o'=some u/\VR C W h v u
theorem Nu.ap'{o:aaf}{o':V9}(x:Nu C W h o o'):o'.isSome=o.isSome:=by rcases x with⟨a,b⟩|⟨v,u,a,b,J⟩<;>rw[a,b]<;>rfl
theorem Nu.ao'{o:aaf}{o':V9}{v:PV}(x:Nu C W h o o')(e:o=some v):∃u,o'=some u/\VR C W h v u:=by
 rcases x with⟨a,J⟩|⟨v',u,a,b,r⟩
 .exact nn (a.symm.trans e)
 .obtain rfl:=si (a.symm.trans e);exact⟨u,b,r⟩
variable [DecidableEq K]
theorem lU.av'{k:K}{kvs:S8}{cF:List (K×Value)}(x:lU C W h enc kvs cF)(hk:∀e∈cF,∀v,fB (enc k) (enc e.1,v)=decide (e.1=k)):Nu C W h (bA (enc k) kvs) (valueAt cF k):=
 lU.au' (P:=λkvs cF=>(∀e∈cF,∀v,fB (enc k) (enc e.1,v)=decide (e.1=k))->Nu C W h (bA (enc k) kvs) (valueAt cF k)) (λJ=>.inl ⟨rfl,rfl⟩) (λi v u kvs cF a J ih hk=>by
  have q:=hk (i,u) aj v;unfold bA valueAt;rw[bK,bK,q];by_cases z:i=k
  .rw[decide_eq_true z];exact .inr ⟨v,u,rfl,rfl,a⟩
  .rw[decide_eq_false z];exact ih λe he=>hk e (af _ he)) x hk
theorem uw{i k:K}{u w:Value}{cF:List (K×Value)}(hn:i∉cF.map (·.1)):stored ((i,u)::cF) k w=if i=k then(i,w)::cF else(i,u)::stored cF k w:=by
 unfold stored;by_cases z:i=k
 .subst z;rw[if_pos rfl,dF,decide_eq_true rfl,Bool.true_or,if_pos rfl,dD,if_pos rfl,map_store_of_not_mem _ _ _ hn]
 .rw[if_neg z,dF,decide_eq_false z,se];by_cases y:cF.any (λkv=>decide (kv.1=k))=true
  .rw[if_pos y,if_pos y,dD,if_neg z]
  .rw[if_neg y,if_neg y];rfl
theorem lU.ar'{k:K}{v:PV}{u:Value}(hv:VR C W h v u){kvs:S8}{cF:List (K×Value)}(x:lU C W h enc kvs cF)(hn:(cF.map (·.1)).Nodup)(hk:∀e∈cF,∀v,fB (enc k) (enc e.1,v)=decide (e.1=k)):lU C W h enc (cY (enc k) v kvs) (stored cF k u):=
 lU.au' (P:=λkvs cF=>(cF.map (·.1)).Nodup->(∀e∈cF,∀v,fB (enc k) (enc e.1,v)=decide (e.1=k))->lU C W h enc (cY (enc k) v kvs) (stored cF k u)) (λJ J=>.aq' hv ⟨rfl,rfl⟩) (λi v' u' kvs cF a x ih hn hk=>by
  obtain⟨n1,n2⟩:=cD.mp hn;rw[uw n1];unfold cY;rw[hk (i,u') aj v'];by_cases z:i=k
  .rw[decide_eq_true z,if_pos z];exact .aq' hv x
  .rw[decide_eq_false z,if_neg z];exact .aq' a (ih n2 λe he=>hk e (af _ he))) x hn hk
end
theorem tU(k i:Int)(v:PV):fB (.d k) (.d i,v)=decide (i=k):=by
 show(some (i==k)==some true)=_;by_cases q:i=k
 .rw[decide_eq_true q,beq_iff_eq.mpr q];rfl
 .rw[decide_eq_false q,beq_eq_false_iff_ne.mpr q];rfl
theorem tX{k:PV}(h:qI k=true):bQ 3 k=true:=(ak.mp h).1
theorem yj{k j:PV}(hj:qI j=true)(v:PV):fB k (j,v)= @decide (j=k) (j7 j k):=by
 letI:=j7;show(rN j k==some true)=_;by_cases q:j=k
 .subst q;rw[wI 3 (tX hj),decide_eq_true rfl];rfl
 .rw[decide_eq_false q];refine beq_eq_false_iff_ne.mpr λe=>q (SS e)
theorem wh(k v:PV):∀kvs:S8,(cY k v kvs).length<=kvs.length+1
 |[]=>aH _
 |e::r=>by
  unfold cY
  induction fB k e with
  |true=>exact bL _
  |false=>exact cA (wh k v r)
def Ha(p:Pt C)(kvs:S8)(a:Addr):Prop:=∃cF,p.I.DictOf (intKind C.d C.w) a cF/\lU C p.W p.I PV.d kvs cF
def GM(p:Pt C)(kvs:S8)(a:Addr):Prop:=∃xs,@Heap.DictOfH C.d C.w PV j7 (lW C) p.I a xs/\lU C p.W p.I id kvs (kvsOf xs)/\∀x∈kvsOf xs,qI x.1=true
def Nv(p:Pt C)(b:Bool)(kvs:S8)(u:Value):Prop:=∃a,u=.ref a/\C.b.get? a=none/\Bool.rec (Ha p kvs a) (GM p kvs a) b
theorem tM.of{o:Obj}{cF:aam}{a:Addr}(g:h.get? a=some o)(d:tM C o cF):h.DictOf (intKind C.d C.w) a cF:=by obtain⟨e,es,ep,x⟩:=d;exact⟨o,es,ep,g,e,x⟩
theorem tM.an'{cF:aam}{a:Addr}(x:h.DictOf (intKind C.d C.w) a cF):∃o,h.get? a=some o/\tM C o cF:=by obtain⟨o,es,ep,g,e,x⟩:=x;exact⟨o,g,e,es,ep,x⟩
theorem PN{α β γ:Type}{f:γ->α}{l:List γ}{vs:List β}(e:vs.length=l.length):((l.map f).zip vs).map (·.1)=l.map f/\((l.map f).zip vs).map (·.2)=vs:=⟨List.map_fst_zip (by rw[ao,e];exact aH _),List.map_snd_zip (by rw[ao,e];exact aH _)⟩
theorem VM.af'{v:MV}{u:Value}{b:Bool}{kvs:S8}(x:VM p v u)(e:(l9 p.m v).bind ah.V=some (b,kvs)):Nv p b kvs u:=by
 obtain⟨c,e1,e2⟩:=fC e;obtain rfl:=Td e2;obtain⟨a,P,q,o,J,r,J⟩:=x.ac' e1 (λe=>nomatch e) rfl
 refine⟨a,q,p.v' o,?_⟩
 induction b with
 |false=>obtain⟨ob,cF,g,d,k,r,J⟩:=r;exact⟨cF,d.of g,k,r⟩
 |true=>
  obtain⟨ob,xs,g,⟨e,es,ep,d1,d2,d3⟩,k,r1,r2,J⟩:=r;have e1:(kvsOf xs).map (·.1)=xs.map (·.1):=eX ..;have e2:(kvsOf xs).map (·.2)=xs.map (·.2.2):=eX ..;refine⟨xs,⟨ob,es,ep,g,e,d1,d2,λx hx=>⟨(r1 x hx).1,VR.y' (tX (r1 x hx).1) (r1 x hx).2⟩,d3⟩,⟨k.trans e1.symm,e2.symm▸r2⟩,λx hx=>?_⟩
  obtain⟨y,hy,rfl⟩:=bF.mp hx;exact(r1 y hy).1
theorem VM.dc{v:MV}{u:Value}{b:Bool}{kvs:S8}(x:VM p v u)(h:B7 p.m v=some (b,kvs)):Nv p b kvs u:=
 lJ h x.af' λq e h=>by
  rw[lZ Ky e]at x
  obtain⟨rfl,rfl⟩:=u7 h;obtain⟨a,o,cF,e1,n,g,d,k,r⟩:=x;have r':bR C p.W p.I q.2 (cF.map (·.2)):=r;have z:=PN (f:=λe:Int×Value=>PV.d e.1) (l:=cF) (vs:=q.2) (by rw[r'.K',ao])
  rw[k];exact⟨a,e1,n,cF,d.of g.2,z.1,z.2.symm▸r'⟩
end

variable{p q:Pt C}
theorem X9(z:n<=100000):(n:Int)<2^63:=Int.lt_of_le_of_lt (uL.mpr z) (by decide)
theorem dh{α:Type}{o:Option α}{f:α->Prop}(h:ob o f)(k:∀a,o=some a->f a->G):G:=by
 induction o with
 |none=>exact h.elim
 |some a=>exact k a rfl h
theorem fj{x:Prop}(h:gb b x)(k:b=true->x->G):G:=by
 induction b with
 |false=>exact h.elim
 |true=>exact k rfl h
theorem iS{v:MV}{f:PV->Prop}(h:pb v f)(k:∀x,v=.a x->f x->G):G:=by
 induction v with
 |a x=>exact k x rfl h
 |b d i=>exact h.elim
 |e c i=>exact h.elim
theorem pB{f:Int->Prop}(h:ib v f)(k:∀x,v=.d x->f x->G):G:=dh h λx e y=>k x (l6 e) y
def mF(p:Pt C)(k:MV->St->Prop)(Q:Value->Shared->Prop):Prop:=∀(q:Pt C) v u,Ex p q->VM q v u->k v q.m->Q u q.s
def rW(p:Pt C)(k:PV->St->Prop)(Q:Value->Shared->Prop):Prop:=∀(q:Pt C) v u,Ex p q->VR C q.W q.I v u->k v q.m->Q u q.s
def Ze(p:Pt C)(k:St->Prop)(Q:Unit->Shared->Prop):Prop:=∀(q:Pt C) u,Ex p q->k q.m->Q u q.s
theorem mF.aB'{k:MV->St->Prop}(x:mF p k Q)(e:Ex p q):mF q k Q:=λr v u y=>x r v u (e.I y)
theorem mF.pv{k:MV->St->Prop}(x:mF p k Q):rW p (λv s=>k (.a v) s) Q:=λr v u=>x r (.a v) u
noncomputable def Pt.tk(p:Pt C)(t:Nat):Pt C:=p.m' p.I t λJ J e=>e
theorem Pt.O(p:Pt C)(t:Nat):eY D B p (p.tk t):=p.g' _ _ _
theorem rW.aJ'{k:PV->St->Prop}(x:rW p k Q)(hk:k v p.m)(t:Nat)(r:VR C p.W p.I v u):Q u {p.s with toks:=t}:=x (p.tk t) v u (p.O t) r hk
def Zd(s:St)(v:MV)(b:Bool):Prop:=(v=.a .h/\b=false)\/v=.a (.g b)\/(∃i,v=.a (.d i)/\(i != 0)=b)\/(iI s v).map (λvs=> !vs.isEmpty)=some b
theorem mtD{s:St}{v:MV}:dB s v=some b->Zd s v b:=
 have o:∀v,(iI s v).map (λvs=> !vs.isEmpty)=some b->Zd s v b:=λJ e=>.inr (.inr (.inr e))
 MV.casesOn (motive:=λv=>dB s v=some b->Zd s v b) v (λv=>PV.casesOn (motive_1:=λv=>dB s (.a v)=some b->Zd s (.a v) b) v (λe=>.inl ⟨rfl,(aq e).symm⟩) (λc e=>.inr (.inl (aq e▸rfl))) (λi e=>.inr (.inr (.inl ⟨i,rfl,aq e⟩)))
  (λx=>o (.a (.k x))) (λx=>o (.a (.f x))) (λx=>o (.a (.j x))) (λx y=>o (.a (.o x y))) (λx y=>o (.a (.m x y))) (λx y=>o (.a (.l x y))) (λx=>o (.a (.e x))) (λx=>o (.a (.p x))) (λx=>o (.a (.n x)))) (λx y=>o (.b x y)) λx y=>o (.e x y)
theorem xI{s:St}{v:MV}(e:dB s v=some b)(k1:v=.a .h->b=false->G)(k2:v=.a (.g b)->G)(k3:∀i,v=.a (.d i)->(i != 0)=b->G)(k4:∀vs,iI s v=some vs->(!vs.isEmpty)=b->G):G:=by
 rcases mtD e with⟨a,b⟩|a|⟨i,a,b⟩|e
 .exact k1 a b
 .exact k2 a
 .exact k3 i a b
 .obtain⟨vs,a,b⟩:=aC.mp e;exact k4 vs a b
theorem j4{v:MV}{Q:Bool->Shared->Prop}(x:VM p v u)(e:dB p.m v=some b)(H:∀t,Q b {p.s with toks:=t}):wpAny C.I A (truthy u) Q E p.s:=by
 refine xI e (λe1 e2=>?_) (λe1=>?_) (λi e1 e2=>?_) λvs e1 e2=>?_
 .subst e1 e2;subst x;exact truthy_none (H _)
 .subst e1;subst x;exact wpAny_truthy_bool (H _)
 .subst e1 e2;obtain⟨t,rfl⟩:=x;exact PySem.P.truthy_int (H _)
 .subst e2;refine(x.ls e1).ax' λa items n e g r z=>?_
  subst e;refine wpAny_truthy_list ⟨_,g,rfl,n,rfl⟩ (X9 z) ?_;rw[<-Array.isEmpty_toList,bR.J' (P:=λvs us=>us.isEmpty=vs.isEmpty) rfl (λJ J J J J J J=>rfl) r]
  exact H _
def rU(p:Pt C)(c:ah)(a:Addr):Prop:=p.W.d a=some (.d a,false)/\gr C p.W p.I (.d a) c a/\c.O=none/\c.I=none
def w6(p:Pt C)(k:MV->St->Prop)(Q:Value->Shared->Prop):Prop:=∀(q:Pt C) c a,Ex p q->p.I.get? a=none->rU q c a->jT c q.m k->Q (.ref a) q.s
theorem w6.ay'{k:MV->St->Prop}(x:w6 p k Q)(e:Ex p q):w6 q k Q:=λr c a y n=>x r c a (e.I y) (e.d' id n)

variable{k:MV->St->Prop}
theorem gr.re{P':Pl}(X:g9 W h W' h')(e:h'.get? a=h.get? a)(c1:c.O=none)(c2:c.I=none)(x:gr C W h P c a):gr C W' h' P' c a:=by
 induction c with
 |a vs=>obtain⟨items,n,g,r,z⟩:=x;exact⟨items,n,e.trans g,bR.H' X _ _ r,z⟩
 |e b kvs=>
  induction b with
  |false=>obtain⟨o,cF,g,d,k,r,z⟩:=x;exact⟨o,cF,e.trans g,d,k,bR.H' X _ _ r,z⟩
  |true=>obtain⟨o,xs,g,d,k,r1,r2,z⟩:=x;exact⟨o,xs,e.trans g,d,k,λx hx=>⟨(r1 x hx).1,VR.u' X _ _ (r1 x hx).2⟩,bR.H' X _ _ r2,z⟩
 |g=>exact sn c1
 |f=>exact sn c2
 |d=>trivial
theorem v7(ha:W.d a=some (.d a,false))(k:aaa):g9 W h ⟨(W.I a k).d,W.f⟩ h:=
 have n:∀b k',k'≠(.d a,false)->W.d b=some k'->(W.I a k).d b=some k':=λb k' n e=>(Wd.J _ _ λq=>n (by subst q;rw[ha]at e;exact(aq e).symm)).trans e
 ⟨λb o x=>⟨(Wd.J _ _ λq=>by have:=x.1;rw[q,ha]at this;exact sn this).trans x.1,x.2⟩,λb i e=>n b _ (λz=>nomatch z) e,λb i e=>⟨n b _ (λz=>nomatch z) e,rfl⟩⟩
noncomputable def rU.aM'{c:ah}{a:Addr}(r:rU q c a)(P:Pl)(hP:∀t,P≠ .d t)(cU:St)(hk:∀b,q.W.d b≠some (P,false))(hc:aW q.W cU P=some c)(hs:∀P c,aW q.W q.m P=some c->aW q.W cU P=some c):Pt C:=q.o' a r.1 (some (P,false)) q.W.f cU (λJ J J J=>rfl) (λb P x e=>by obtain⟨rfl,rfl⟩:=u7 e;exact hk b) (λt x e=>by obtain⟨rfl,rfl⟩:=u7 e;exact hP t rfl) (λP x e=>by obtain⟨rfl,rfl⟩:=u7 e;exact⟨c,hc,λJ=>r.2.1.re (v7 r.1 _) rfl r.2.2.1 r.2.2.2⟩) λb P x e c e2=>⟨c,hs P c e2,.inl rfl⟩
theorem rU.to(r:rU q c a)(P:Pl)(hP:∀t,P≠ .d t)(cU:St)(hk hc hs)(hl:cU.a.length=q.m.a.length):eY (λb=>b=a) B q (r.aM' P hP cU hk hc hs):=
 have g:∀k,jU q.m k->jU cU k:=λk z=>by
  induction k with
  |b l i=>exact hs (.b l i) .d z
  |_=>exact z.elim
 Pt.u' _ _ _ _ _ _ _ _ _ _ (λk z=>.inl (g k z)) hl
noncomputable def rU.aL'{c:ah}{a:Addr}(r:rU q c a):Pt C:=q.o' a r.1 none q.W.f q.m (λJ J J J=>rfl) (λb P x e=>nomatch e) (λt x e=>nomatch e) (λP x e=>nomatch e) λb P x e c e2=>⟨c,e2,.inl rfl⟩
theorem rU.aQ'(r:rU q c a):eY (λb=>b=a) B q r.aL':=Pt.u' _ _ _ _ _ _ _ _ _ _ (λJ z=>.inl z) rfl
def Tn(q:Pt C)(a:Addr)(k:MV->St->Prop):Prop:=∀{G:Prop},(∀(q':Pt C) v,q'.s=q.s->eY (λb=>b=a) nj q q'->VM q' v (.ref a)->k v q'.m->G)->G
theorem mF.tn(K:mF p k Q)(E:Ex p q)(na:p.I.get? a=none)(T:Tn q a k):Q (.ref a) q.s:=
 T λq' v es E' V h=>by
  have:=K q' v (.ref a) (E.f' E' λb z=>.inr (z▸na)) V h
  rw[es]at this;exact this
theorem Gp(K:g9 W h W' h)(o:W'.d a=none)(nb:C.b.get? a=none)(r:gr C W h P c a)(e:B5 c=some v):VR C W' h v (.ref a):=by
 induction c with
 |a vs=>obtain rfl:=si e;obtain⟨items,n,g,x,z⟩:=r;exact⟨a,items,n,rfl,⟨o,g⟩,bR.H' K _ _ x,by rwa [aY]⟩
 |e b kvs=>
  induction b with
  |false=>obtain rfl:=si e;obtain⟨ob,cF,g,d,k,x,z⟩:=r;exact⟨a,ob,cF,rfl,nb,⟨o,g⟩,d,k,bR.H' K _ _ x⟩
  |true=>exact nn e
 |_=>exact nn e
theorem rU.aR'(r:rU q c a)(e:B5 c=some v):VR C r.aL'.W q.I v (.ref a):=Gp (v7 (h:=q.I) r.1 none) (Wd.O ..) (q.v' r.1) r.2.1 e
theorem FL{d:ah}(e:aW W ⟨pm,r::rr,ni⟩ P=some d):aW W ⟨pm,(r++[c])::rr,ni⟩ P=some d:=by
 induction P with
 |b l i=>
  change(r::rr).reverse[l]?.bind (·[i]?)=some d at e
  show((r++[c])::rr).reverse[l]?.bind (·[i]?)=some d;rw[fM]at e⊢
  rcases ry l rr.reverse.length with z|z|z
  .rw[aZ z]at e⊢;exact e
  .subst z;rw[bu]at e⊢
   exact(aZ (aL.mp e).1).trans e
  .rw[aV (by rw[aa];exact z)]at e;exact nn e
 |_=>exact e
theorem pJ:aW W ⟨pm,r::rr,ni⟩ (.b rr.length i)=r[i]? :=by show(r::rr).reverse[rr.length]?.bind (·[i]?)=_;rw[fM,show rr.length=rr.reverse.length from cM.symm,bu];rfl
theorem w4.V(R:w4 C W h st)(e:aW W st P=none)(b:Addr):W.d b≠some (P,false):=λo=>by obtain⟨c,e1,J⟩:=R.I o;exact nn (e.symm.trans e1)
theorem rU.aO'(r:rU q c a)(hk:jT c q.m k):Tn q a k:=λgo=>by
 obtain⟨W,s,⟨pm,rg,ni⟩,rel⟩:=q
 induction rg using aQ with
 |nil=>exact hk.elim
 |cons r0 rr=>
  have hn:=rel.V (P:=.b rr.length r0.length) (pJ.trans (aV (aH _)));refine go (r.aM' (.b rr.length r0.length) (λJ=>nofun) ⟨pm,(r0++[c])::rr,ni⟩ hn (pJ.trans bu) λP d e=>FL e) (.b 0 r0.length) rfl (r.to _ _ _ _ _ _ rfl) ⟨pC _,.inr ⟨a,rfl,?_⟩⟩ hk
  exact Wd.O ..
theorem mF.aC'(K:mF p k Q):w6 p k Q:=λq c a E na r hk=>K.tn E na (r.aO' hk)
theorem LK(h:jT c st λv s=>zY false v s k):∃v,B5 c=some v/\k (.a v) st:=by
 obtain⟨pm,rg,ni⟩:=st
 induction rg using aQ with
 |nil=>exact h.elim
 |cons r rr=>
  change gb (Nat.beq (r.length+1) (r++[c]).length) (ob (r++[c])[r.length]? λc'=>ob (B5 c') λp=>k (.a p) ⟨pm,(r++[c]).dropLast::rr,ni⟩)at h
  refine fj h λJ h=>?_
  rw[bu,g5]at h
  exact dh (o:=B5 c) h λv e y=>⟨v,e,y⟩
theorem HL(h:jT c st λv s=>Jp v s k):k (.a (.e st.b.length)) ⟨st.b++[c],st.a,st.c⟩:=by
 obtain⟨pm,rg,ni⟩:=st
 induction rg using aQ with
 |nil=>exact h.elim
 |cons r rr=>
  change gb (Nat.beq (r.length+1) (r++[c]).length) (ob (r++[c])[r.length]? λc'=>k (.a (.e pm.length)) ⟨pm++[c'],(r++[c]).dropLast::rr,ni⟩)at h
  refine fj h λJ h=>?_
  rw[bu,g5]at h
  exact h
theorem rU.aP'(r:rU q c a)(hk:jT c q.m λv s=>zY false v s k):Tn q a k:=λgo=>by obtain⟨v,e,y⟩:=LK hk;exact go r.aL' (.a v) rfl r.aQ' (r.aR' e) y
theorem mF.aH'(K:mF p k Q):w6 p (λv s=>zY false v s k) Q:=λq c a E na r hk=>K.tn E na (r.aP' hk)
theorem CP{d:ah}(e:aW W st P=some d):aW W ⟨st.b++[c],st.a,st.c⟩ P=some d:=by
 have key:∀{i d},st.b[i]?=some d->(st.b++[c])[i]?=some d:=λe=>(aZ (aL.mp e).1).trans e
 induction P with
 |f i=>exact key e
 |e i j=>
  obtain⟨vs,e1,e2⟩:=aC.mp (show((st.b[i]?.bind ah.I).bind (·[j]?)).map ah.a=some d from e)
  obtain⟨eK,e3,e4⟩:=fC e1;obtain⟨c',e5,e6⟩:=fC e3;show(((st.b++[c])[i]?.bind ah.I).bind (·[j]?)).map ah.a=some d;rw[key e5];show((c'.I).bind (·[j]?)).map ah.a=some d;rw[e6];show(eK[j]?).map ah.a=some d;rw[e4];exact congrArg some e2
 |_=>exact e
theorem rU.aN'(r:rU q c a)(hk:k (.a (.e q.m.b.length)) ⟨q.m.b++[c],q.m.a,q.m.c⟩):Tn q a k:=λgo=>by
 have hn:=q.r.V (P:=.f q.m.b.length) (aV (aH _));refine go (r.aM' (.f q.m.b.length) (λJ=>nofun) ⟨q.m.b++[c],q.m.a,q.m.c⟩ hn bu λP d e=>CP e) (.a (.e q.m.b.length)) rfl (r.to _ _ _ _ _ _ rfl) ⟨a,rfl,?_⟩ hk
 exact Wd.O ..
theorem mF.aD'(K:mF p k Q):w6 p (λv s=>Jp v s k) Q:=λq c a E na r hk=>K.tn E na (r.aN' (HL hk))

theorem gM(h:n<=100000):n<=sizeLine:=aA h (by rw[sizeLine_eq];decide)
theorem rW.aK'{k:PV->St->Prop}(K:rW p k Q)(x:bR C p.W p.I vs us)(hl:us.length<=100000)(h:k (.f vs) p.m):Q (.ref p.I.objs.size) {p.s with heap:=p.I.push (jH us.toArray 0)}:=K (p.m' (p.I.push (jH us.toArray 0)) p.s.toks (dY.aj' _ _)) (.f vs) _ (p.g' ..) ⟨_,us.toArray,0,rfl,⟨p.V (cJ _),bq _ rfl⟩,(x.G' (p.g' (D:=Ah) (B:=nj) ..):bR C _ _ vs us),hl⟩ h
theorem w6.az'(K:w6 p k Q)(x:bR C p.W p.I vs us)(hl:us.length<=100000)(h:jT (.a vs) p.m k):Q (.ref p.I.objs.size) {p.s with heap:=p.I.push (b8 us.toArray 0)}:=
 have g:(p.I.push (b8 us.toArray 0)).get? p.I.objs.size=some (b8 us.toArray 0):=bq _ rfl
 K (p.d' (p.I.push (b8 us.toArray 0)) p.s.toks (dY.aj' _ _) p.I.objs.size (cJ _) (bS g)) (.a vs) _ (p.f' ..) (cJ _) ⟨Wd.O ..,⟨us.toArray,0,g,x.G' (p.f' (D:=Ah) (B:=nj) ..),by rwa [List.size_toArray]⟩,rfl,rfl⟩ h
theorem VR.s'(x:VR C W h (.f vs) u)(k:∀a items,u=.ref a->qe W h a (jH items 0)->bR C W h vs items.toList->items.size<=100000->G):G:=by obtain⟨a,items,n,e,g,r,z⟩:=x;exact k a items e g r (by rwa [aY]at z)
noncomputable def xg:vn->Operator
 |.a=>.Add|.e=>.Sub|.c=>.Mod|.f=>.FloorDiv|.b=>.BitAnd|.d=>.BitOr
theorem HJ{x y:Int}(h:0<=x/\x<1000000/\0<y/\y<1000000):Builtin.divisionGoesByPylong x y=false:=PyProof.noPylong_small (dK.mp (by rw[Int.natAbs_of_nonneg (Int.le_of_lt h.2.2.1)];exact Int.lt_trans h.2.2.2 (by decide)))
theorem X6(n:Nat):((-1:Int)+(n:Int)).toNat=n-1:=(congrArg Int.toNat (Int.add_comm (-1) (n:Int))).trans (Int.toNat_sub n 1)
theorem GZ{x y z:Int}{t t':Tok}(e:nA op x y=some z)(H:∀tk t,Q (.int z t) {p.s with toks:=tk}):wpAny C.I A (binaryOp (xg op) (.int x t) (.int y t')) Q E p.s:=by
 induction op
 .obtain rfl:=si e;exact PySem.P.add_int (H _ _)
 .obtain rfl:=si e;exact PySem.P.sub_int (H _ _)
 .by_cases hn:y=0
  .rw[nA,if_pos hn]at e;exact nn e
  .rw[nA,if_neg hn]at e;obtain rfl:=si e;exact mod_int' hn (H _ _)
 .by_cases hn:0<=x/\x<1000000/\0<y/\y<1000000
  .rw[nA,if_pos hn]at e;obtain rfl:=si e;exact floordiv_int (Int.ne_of_gt hn.2.2.1) (H _ _) (.inl (HJ hn))
  .rw[nA,if_neg hn]at e;exact nn e
 .obtain rfl:=si e;exact and_int (H _ _)
 .obtain rfl:=si e;exact or_int (H _ _)
theorem cb{a b:MV}{s:St}(h:tF op a b s k)(k1:∀x y,a=.a (.d x)->b=.a (.d y)->ob (nA op x y) (λz=>k (.a (.d z)) s)->G)(k2:∀xs ys,a=.a (.f xs)->b=.a (.f ys)->gb (AE op&&decide (xs.length+ys.length<=1000)) (k (.a (.f (xs++ys))) s)->G)(k3:ob (iI s a) (λxs=>ob (iI s b) λys=>gb (AE op&&decide (xs.length+ys.length<=100000)) (jT (.a (xs++ys)) s k))->G):G:=qf h (λh=>qf h k3 λp e h=>k2 p.1 p.2 (jm kD e).1 (jm kD e).2 h) λp e h=>k1 p.1 p.2 (jm l6 e).1 (jm l6 e).2 h
theorem KH(h:AE op=true):op=.a:=by induction op<;>first|rfl|exact ft h
theorem K7{k:PV->St->Prop}(x:VR C p.W p.I (.f xs) u1)(y:VR C p.W p.I (.f ys) u2)(hz:xs.length+ys.length<=1000)(h:k (.f (xs++ys)) p.m)(K:rW p k Q):wpAny C.I A (binaryOp .Add u1 u2) Q E p.s:=by
 have x0:=x;have y0:=y;refine x.s' λa items ea g1 r1 J=>y.s' λb items2 eb g2 r2 J=>?_
 subst ea eb;have l1:=r1.F';have l2:=r2.F';by_cases q1:items.isEmpty=true
 .have:xs=[]:=lG.mp (l1.trans (Array.size_eq_zero_iff.mpr (Array.isEmpty_iff.mp q1)));subst this;exact concat_meets ⟨_,g1.2,rfl⟩ ⟨_,g2.2,rfl⟩ noFill_tuple_add seq_tuple_add PySem.F.slot_tuple_add PySem.F.entry_tuple_add (PySem.F.args_tuple_add_2 _ _)
   (tuple_addW0 a b items items2 0 0 none none #[] #[] q1) ⟨g1.2,g2.2,K.aJ' h p.s.toks y0⟩
 .by_cases q2:items2.isEmpty=true
  .have:ys=[]:=lG.mp (l2.trans (Array.size_eq_zero_iff.mpr (Array.isEmpty_iff.mp q2)));subst this;rw[az]at h
   exact concat_meets ⟨_,g1.2,rfl⟩ ⟨_,g2.2,rfl⟩ noFill_tuple_add seq_tuple_add PySem.F.slot_tuple_add PySem.F.entry_tuple_add (PySem.F.args_tuple_add_2 _ _)
    (tuple_addW1 a b items items2 0 0 none none #[] #[] q1 q2) ⟨g1.2,g2.2,K.aJ' h p.s.toks x0⟩
  .have:=K.aK' (r1.N' r2) (by rw[aa,aY,aY];exact ri (.a ja jb) aX [.a (.a jc jd) oR,.e jc ja,.e jd jb] rfl hz l1 l2) h
   rw[<-Array.toList_append,Array.toArray_toList]at this
   exact PySem.P.add_tuple g1.2 g2.2 q1 q2 this (by rw[sizeLine_eq];exact ri (.a ja jb) (.n 16777216) [.a (.a jc jd) oR,.e jc ja,.e jd jb] rfl hz l1 l2)
theorem GX(x:VM p v1 u1)(y:VM p v2 u2)(h:tF op v1 v2 p.m k)(K:rW p (λv s=>k (.a v) s) Q)(F:w6 p k Q):wpAny C.I A (binaryOp (xg op) u1 u2) Q E p.s:=by
 refine cb h (λa b e1 e2 h=>?_) (λxs ys e1 e2 h=>?_) λh=>?_
 .subst e1 e2;obtain⟨t,rfl⟩:=x;obtain⟨t',rfl⟩:=y;exact dh h λz e h=>GZ e λtk t=>K.aJ' h tk ⟨t,rfl⟩
 .subst e1 e2;refine fj h λe h2=>?_
  obtain⟨e1,e2⟩:=ak.mp e;obtain rfl:=KH e1;exact K7 x y (of_decide_eq_true e2) h2 K
 .refine dh h λxs e1 h2=>dh h2 λys e2 h3=>fj h3 λe h4=>?_
  obtain⟨e3,e4⟩:=ak.mp e;obtain rfl:=KH e3;refine(x.ls e1).ax' λa items n ea g1 r1 z1=>(y.ls e2).ax' λb items2 n2 eb g2 r2 z2=>?_
  subst ea eb;have l1:=r1.F';have l2:=r2.F';have hz:=of_decide_eq_true e4;have:=F.az' (r1.N' r2) (by rw[aa,aY,aY,<-l1,<-l2];exact hz) h4
  rw[<-Array.toList_append,Array.toArray_toList]at this
  exact PySem.P.add_list g1 g2 this (by rw[<-l1,<-l2];exact gM hz)

open SeqAt
theorem Rx(hm:m=xs.length)(hn:m=ys.length):(List.range m).all (λj=>pT (xs[j]?=ys[j]?))=pT (xs=ys):=by
 have:=@Dq _ (Classical.typeDecidableEq PV) xs ys m m hm hn (λj=>pT (xs[j]?=ys[j]?)) λJ=>rfl
 rwa [Nat.min_self,beq_self_eq_true,gg]at this
theorem xK(x:bR C W h vs us)(hk:vs.all (bQ d)=true):bR C W0 h vs us:=bR.J' (P:=λvs us=>vs.all (bQ d)=true->bR C W0 h vs us) (λJ=>rfl) (λJ J J J a J ih k=>.I' (a.y' (ak.mp k).1) (ih (ak.mp k).2)) x hk
theorem We{s:St}{a b:MV}{r:Bool}(e:CB s a b=some r):∃xs ys,iI s a=some xs/\iI s b=some ys/\xs.all (bQ 3)=true/\ys.all (bQ 3)=true/\r=pT (xs=ys):=by
 obtain⟨xs,e1,e⟩:=fC e;obtain⟨ys,e2,e⟩:=fC e;by_cases hk:(j0 3 xs&&j0 3 ys)=true
 .rw[if_pos hk]at e
  obtain⟨k1,k2⟩:=ak.mp hk;refine⟨xs,ys,e1,e2,k1,k2,?_⟩;by_cases hl:xs.length=ys.length
  .rw[if_pos hl]at e
   exact(yT (yS (λa J=>DP a) ys r e)).symm
  .rw[if_neg hl]at e
   obtain rfl:=si e;exact(yU λz=>hl (congrArg List.length z)).symm
 .rw[if_neg hk]at e;exact nn e
theorem Bt{b:Addr}{items2:WA}{n2:Nat}(g1:s.heap.get? a=some (b8 items n))(g2:s.heap.get? b=some (b8 items2 n2))(r1:bR C W0 s.heap xs items.toList)(r2:bR C W0 s.heap ys items2.toList)(k1:xs.all (bQ 3)=true)(k2:ys.all (bQ 3)=true)(hu:A.units+10<cLine):
  RcAt A s (.ref a) (.ref b) (pT (xs=ys)):=by
 by_cases hl:items.size=items2.size
 .rw[<-Rx r1.F'.symm (hl.trans r2.F'.symm)];exact RcAt.lists ⟨_,g1,rfl,n,rfl⟩ ⟨_,g2,rfl,n2,rfl⟩ hl (by exact fh ja jb [.b (.a ja sF) jb] rfl hu) (tT (Dc 3) r1 r2 k1 k2 (by rw[lg];exact fh (.a (.a ja aU) GC) jb [.b (.a ja sF) jb] rfl hu))
 .rw[yU λz=>hl (by rw[<-r1.F',<-r2.F',z])]
  exact RcAt.lists_lengths ⟨_,g1,rfl,n,rfl⟩ ⟨_,g2,rfl,n2,rfl⟩ (bne_iff_ne.mpr hl) (by exact fh ja jb [.b (.a ja sF) jb] rfl hu)
theorem EG{b:Addr}{items2:WA}{n2:Nat}(g1:s.heap.get? a=some (b8 items n))(g2:s.heap.get? b=some (b8 items2 n2))(r1:bR C W0 s.heap xs items.toList)(r2:bR C W0 s.heap ys items2.toList)(k1:xs.all (bQ 3)=true)(k2:ys.all (bQ 3)=true)(hu:A.units+10<cLine):
  EqAt A s (.ref a) (.ref b) (pT (xs=ys)):=by
 by_cases Ad:a=b
 .subst Ad
  cases g1.symm.trans g2
  rw[uZ (LX r1 k1 r2 k2)];exact .same _
 .exact .of_refs Ad (Bt g1 g2 r1 r2 k1 k2 hu)
theorem Ku{a b:MV}{v:Value}{r:Bool}(x:VM p a u)(y:VM p b v)(e:CB p.m a b=some r)(hu:A.units+10<cLine):RcAt A p.s u v r/\EqAt A p.s u v r:=by
 obtain⟨xs,ys,e1,e2,k1,k2,e3⟩:=We e;refine(x.ls e1).ax' λa items n ea g1 r1 z1=>(y.ls e2).ax' λb items2 n2 eb g2 r2 z2=>?_
 subst ea eb e3;exact⟨Bt g1 g2 (xK r1 k1) (xK r2 k2) k1 k2 hu,EG g1 g2 (xK r1 k1) (xK r2 k2) k1 k2 hu⟩
theorem Rd(x:bR C p.W p.I xs us)(hu:A.units+10<cLine):∀{ys:S3}{ws:S9}{r:Bool},bR C p.W p.I ys ws->EN p.m xs ys=some r->∃e:Nat->Bool,us.length=ws.length/\(List.range us.length).all e=r/\∀(j:Nat) u w,us[j]?=some u->ws[j]?=some w->EqAt A p.s u w (e j):=
 bR.J' (P:=λxs us=>∀{ys:S3}{ws:S9}{r:Bool},bR C p.W p.I ys ws->EN p.m xs ys=some r->∃e:Nat->Bool,us.length=ws.length/\(List.range us.length).all e=r/\∀(j:Nat) u w,us[j]?=some u->ws[j]?=some w->EqAt A p.s u w (e j)) (λ{ys ws r} y e=>by
  induction ys using aQ with
  |nil=>subst y;obtain rfl:=si e;exact⟨λJ=>true,rfl,rfl,λj u w h=>nomatch h⟩
  |cons=>exact nn e) (λv u vs us a J ih ys ws r y e=>by
  induction ys using aQ with
  |nil=>exact nn e
  |cons b bs=>
   obtain⟨w,ws',e1,b1,b2⟩:=y;subst e1;obtain⟨q,e2,e3⟩:=fC (show(CB p.m (.a v) (.a b)).bind (λx=>(EN p.m vs bs).map (x&& ·))=some r from e)
   obtain⟨q2,e4,e5⟩:=aC.mp e3;obtain⟨f,f1,f2,f3⟩:=ih b2 e4;refine⟨λj=>Nat.casesOn j q f,congrArg Nat.succ f1,?_,λj=>Nat.casesOn j (λu' w' h1 h2=>?_) λj u' w' h1 h2=>f3 j u' w' h1 h2⟩
   .rw[iL,List.range_succ_eq_map,List.all_cons,List.all_map,<-e5,<-f2];rfl
   .obtain rfl:=aq h1;obtain rfl:=aq h2;exact(Ku (p:=p) (a:=.a v) (b:=.a b) a b1 e2 hu).2) x
theorem Ev{s:St}{a b:MV}{r:Bool}(h:DQ s a b=some r)(k1:∀x y,a=.a (.d x)->b=.a (.d y)->(x==y)=r->G)(k2:∀x y,a=.a (.k x)->b=.a (.k y)->(x==y)=r->G)(k3:∀x y,a=.a (.f x)->b=.a (.f y)->(if j0 3 x&&j0 3 y then sH x y else EN s x y)=some r->G)(k4:CB s a b=some r->G):G:=lJ h (λh=>lJ h (λh=>lJ h k4 λp e h=>k3 p.1 p.2 (jm kD e).1 (jm kD e).2 h) λp e h=>k2 p.1 p.2 (jm ql e).1 (jm ql e).2 (aq h)) λp e h=>k1 p.1 p.2 (jm l6 e).1 (jm l6 e).2 (aq h)
theorem U1(hu:A.units+20<cLine)(x:VM p v1 u1)(y:VM p v2 u2)(e0:DQ p.m v1 v2=some b)(H:∀tk,Q (.bool b) {p.s with toks:=tk}):wpAny C.I A (compareOp .Eq u1 u2) Q E p.s:=by
 refine Ev e0 (λa b e1 e2 e=>?_) (λa b e1 e2 e=>?_) (λxs ys e1 e2 e=>?_) (λe=>?_)<;>clear e0
 .subst e1 e2 e;obtain⟨t,rfl⟩:=x;obtain⟨t',rfl⟩:=y;exact PySem.P.eq_int (H _)
 .subst e1 e2 e;obtain⟨t,rfl⟩:=x;obtain⟨t',rfl⟩:=y;exact PyProof.Rows.eq_str (H _)
 .subst e1 e2;refine VR.s' x λa items ea g1 r1 J=>VR.s' y λa2 items2 eb g2 r2 J=>?_
  subst ea eb;by_cases hk:(j0 3 xs&&j0 3 ys)=true
  .rw[if_pos hk]at e
   obtain⟨k1,k2⟩:=ak.mp hk;refine eq_tupleAt (items:=items) (items2:=items2) (e:=λj=>pT (xs[j]?=ys[j]?)) ⟨_,g1.2,rfl,0,rfl⟩ ⟨_,g2.2,rfl,0,rfl⟩ (by exact fh ja jb [.b (.a ja iT) jb] rfl hu) (tT (Dc 3) (xK r1 k1) (xK r2 k2) k1 k2 (by rw[lg];exact fh (.a (.a ja aU) GC) jb [.b (.a ja iT) jb] rfl hu)) ?_
   rw[@Dq _ (Classical.typeDecidableEq PV) xs ys _ _ r1.F'.symm r2.F'.symm _ λJ=>rfl,yT (yS (λa J=>DP a) ys b e)]
   exact H _
  .rw[if_neg hk]at e
   obtain⟨f,f1,f2,f3⟩:=Rd (A:=A.in1) r1 (by rw[lg];exact fh (.a (.a ja aU) sF) jb [.b (.a ja iT) jb] rfl hu) r2 e
   refine eq_tupleAt (items:=items) (items2:=items2) (e:=f) ⟨_,g1.2,rfl,0,rfl⟩ ⟨_,g2.2,rfl,0,rfl⟩ (by exact fh ja jb [.b (.a ja iT) jb] rfl hu) (λj h1 h2=>f3 j _ _ (by rw[cg,fm h1]) (by rw[cg,fm h2])) ?_
   rw[aY]at f1 f2
   rw[aY]at f1
   rw[<-f1,Nat.min_self,f2,beq_self_eq_true,gg];exact H _
 .exact(Ku x y e (by exact fh (.a ja sF) jb [.b (.a ja iT) jb] rfl hu)).1 _ _ _ _ (H _)

noncomputable def TM:PM->CmpOp
 |.a=>.Eq|.c=>.NotEq|.e=>.Lt|.h=>.LtE|.d=>.Gt|.f=>.GtE|.b=>.In|.g=>.NotIn
theorem xt{s:St}{a b:MV}{r:Bool}(h:AA s a b=some r)(k1:∀x y,a=.a (.d x)->b=.a (.d y)->(x != y)=r->G)(k2:∀x y,a=.a (.k x)->b=.a (.k y)->(x != y)=r->G)(k3:∀xs ys,iI s a=some xs->iI s b=some ys->(if xs.length=ys.length then(if xs.length=0 then some false else none)else some true)=some r->G):G:=lJ h (λh=>lJ h (λh=>by obtain⟨xs,e1,h⟩:=fC h;obtain⟨ys,e2,h⟩:=fC h;exact k3 xs ys e1 e2 h) λp e h=>k2 p.1 p.2 (jm ql e).1 (jm ql e).2 (aq h)) λp e h=>k1 p.1 p.2 (jm l6 e).1 (jm l6 e).2 (aq h)
theorem U0(hu:A.units+20<cLine)(x:VM p v1 u1)(y:VM p v2 u2)(e0:AA p.m v1 v2=some b)(H:∀tk,Q (.bool b) {p.s with toks:=tk}):wpAny C.I A (compareOp .NotEq u1 u2) Q E p.s:=by
 refine xt e0 (λa b e1 e2 e=>?_) (λa b e1 e2 e=>?_) (λxs ys e1 e2 e=>?_)<;>clear e0
 .subst e1 e2 e;obtain⟨t,rfl⟩:=x;obtain⟨t',rfl⟩:=y;exact PySem.P.ne_int (H _)
 .subst e1 e2 e;obtain⟨t,rfl⟩:=x;obtain⟨t',rfl⟩:=y;exact PyProof.Rows.ne_str (H _)
 .refine(x.ls e1).ax' λa items n ea g1 r1 z1=>(y.ls e2).ax' λb' items2 n2 eb g2 r2 z2=>?_
  subst ea eb;have l1:=r1.F';have l2:=r2.F';by_cases hz:xs.length=ys.length
  .rw[if_pos hz]at e
   by_cases h0:xs.length=0
   .rw[if_pos h0]at e
    obtain rfl:=si e;have:=SeqAt.RcNeAt.lists (A:=A) (e:=λJ=>true) ⟨_,g1,rfl,n,rfl⟩ ⟨_,g2,rfl,n2,rfl⟩ (by exact gT (pR ja jb [.e jc ja,.f jc fU] rfl l1 h0) (ri ja jb [.e jc ja,.e jd jc,.f jd fU] rfl l2 hz h0)) (by exact fh ja jb [.b (.a ja iT) jb] rfl hu) (λj h1=>absurd (Nat.lt_of_lt_of_eq h1 (l1.symm.trans h0)) (jn _)) C.d C.w E Q
    rw[show items.size=0 by exact gT (mK ja fU [.e jb ja,.f jb fU] rfl l1 h0) (kQ fU ja [] rfl)]at this
    exact this (H _)
   .rw[if_neg h0]at e;exact nn e
  .rw[if_neg hz]at e
   obtain rfl:=si e;exact SeqAt.RcNeAt.lists_lengths ⟨_,g1,rfl,n,rfl⟩ ⟨_,g2,rfl,n2,rfl⟩ (bne_iff_ne.mpr λz=>hz (l1.trans (z.trans l2.symm))) (by exact fh ja jb [.b (.a ja iT) jb] rfl hu) C.d C.w E Q (H _)
theorem Gh(x:bR C W h vs us)(hi:vs.all isInt=true)(k:Int):∃ns:S1,IntsAre us ns/\(vs.any λv=>rN v (.d k)==some true)=ns.any (· ==k):=
 bR.J' (P:=λvs us=>vs.all isInt=true->∃ns:S1,IntsAre us ns/\(vs.any λv=>rN v (.d k)==some true)=ns.any (· ==k)) (λJ=>⟨[],.nil,rfl⟩) (λv u vs us a J ih hi=>by
  obtain⟨h1,h2⟩:=ak.mp hi;obtain⟨ns,b,c⟩:=ih h2
  induction v using PV.casesOn with
  |d i=>obtain⟨t,rfl⟩:=a;refine⟨i::ns,.cons i t b,?_⟩;rw[dF,dF,c];exact congrArg (· ||_) (by induction h:(i==k)<;>exact(show(some (i==k)==some true)=_ by rw[h];rfl))
  |_=>exact ft h1) x hi
theorem qq(h:isInt v=true):∃k,v=.d k:=by induction v using PV.casesOn<;>first|exact⟨_,rfl⟩|exact ft h
theorem CV(hs:eE C.b sysModules)(h:C.b.get? a=none):(a==sysModules)=false:=beq_eq_false_iff_ne.mpr λe=>by subst e;unfold eE at hs;rw[h]at hs;exact ft hs
theorem nV(k:Int)(t:Tok):(intKind C.d C.w).is k (.int k t)=true:=by show Value.isInt k (.int k t)=true;simp[Value.isInt]
theorem PY:∀{l:S5}{r:S3},dq l r=true->r.all (bQ 2)=true:=by
 have iz:∀{d:Nat}{vs:S3},vs.all isInt=true->vs.all (bQ d)=true:=λ{d vs} h=>aJ.mpr λv hv=>by
  obtain⟨k,rfl⟩:=qq (aJ.mp h v hv)
  induction d using iV<;>rfl
 have one:∀n v,Yd n v=true->bQ 2 v=true:=λn v h=>by
  match n with
  |0=>obtain⟨k,rfl⟩:=qq (v:=v) h;rfl
  |1=>
   obtain⟨c,e⟩:=bz.mp (show v.O.isSome=true from h)
   rw[ql e];rfl
  |2=>
   induction e:v.I with
   |none=>replace h:(match v.I with|some vs=>vs.all isInt|none=>false)=true:=h;rw[e]at h;exact ft h
   |some vs=>replace h:(match v.I with|some vs=>vs.all isInt|none=>false)=true:=h;rw[e]at h;rw[kD e];exact iz (d:=1) h
  |n+3=>
   induction e:v.I with
   |none=>replace h:(match v.I with|some vs=>vs.all (λw=>match w.I with|some [a,b,c,d]=>a.O.isSome&&isInt b&&isInt c&&isInt d|_=>false)|none=>false)=true:=h;rw[e]at h;exact ft h
   |some vs=>
    replace h:(match v.I with|some vs=>vs.all (λw=>match w.I with|some [a,b,c,d]=>a.O.isSome&&isInt b&&isInt c&&isInt d|_=>false)|none=>false)=true:=h;rw[e]at h
    rw[kD e];refine aJ.mpr λw hw=>?_
    have:=aJ.mp h w hw;revert this
    induction e2:w.I with
    |none=>exactλh=>nomatch h
    |some xs=>
     rw[kD e2]
     match xs with
     |[a,b,c,d]=>
      intro h;simp only[bg]at h
      obtain⟨⟨⟨h1,h2⟩,h3⟩,h4⟩:=h;obtain⟨x,hx⟩:=bz.mp h1;obtain⟨b,rfl⟩:=qq h2;obtain⟨c,rfl⟩:=qq h3;obtain⟨d,rfl⟩:=qq h4;rw[ql hx];rfl
     |[]=>exactλh=>nomatch h
     |[_]=>exactλh=>nomatch h
     |[_,_]=>exactλh=>nomatch h
     |[_,_,_]=>exactλh=>nomatch h
     |_::_::_::_::_::_=>exactλh=>nomatch h
 intro l
 induction l with
 |nil=>intro r h;induction r using aQ<;>first|rfl|exact ft h
 |cons n l ih=>
  intro r h
  induction r using aQ with
  |nil=>exact ft h
  |cons v r=>obtain⟨a,b⟩:=ak.mp h;exact ak.mpr ⟨one n v a,ih b⟩
theorem rY(h:zP v=true):qI v=true:=by
 induction e:v.I with
 |none=>unfold zP at h;rw[e]at h;exact ft h
 |some vs=>
  unfold zP at h;rw[e]at h
  rw[kD e]
  match vs with
  |.d c::q=>exact ak.mpr ⟨ak.mpr ⟨rfl,PY h⟩,rfl⟩
  |[]=>exact ft h
  |.h::_|.g _::_|.k _::_|.f _::_|.j _::_|.o _ _::_|.m _ _::_|.l _ _::_|.e _::_|.p _::_|.n _::_=>exact ft h

theorem lU.at'{k:Int}(x:lU C W h PV.d kvs cF):Nu C W h (bA (.d k) kvs) (valueAt cF k):=x.av' λe J v=>tU k e.1 v
theorem lU.as'{k:PV}{xs:aat}(x:lU C W h id kvs (kvsOf xs))(hr:∀x∈kvsOf xs,qI x.1=true):Nu C W h (bA k kvs) ((@atKey PV j7 xs k).map (·.2)):=by letI:=j7;rw[<-valueAt_kvsOf];exact x.av' λe he v=>yj (hr e he) v
theorem VR.x'(x:VR C W h v u)(hr:qI v=true)(k:∀a,u=.ref a->VR C W0 h v (.ref a)->G):G:=by obtain⟨k1,k2⟩:=ak.mp hr;obtain⟨vs,e⟩:=bz.mp k2;have e:=kD e;subst e;have y:=x.y' k1;exact x.s' λa items e J J J=>k a e (e▸y)
theorem mH{k:PV}(h:iQ false k=true):∃i,k=.d i:=qq h
theorem vA(hu:A.units+20<cLine):@HeapKind.room C.d C.w PV j7 (lW C) A.in1:=by show A.in1.units+4<cLine;rw[lg];exact fh (.a (.a ja aU) qz) jb [.b (.a ja iT) jb] rfl hu
theorem Qo{k:PV}(hu:A.units+20<cLine)(hs:eE C.b sysModules)(x:VR C p.W p.I k u1)(y:Nv p b kvs u2)(hf:iQ b k=true):
  ((∀tk,Q (.bool (bA k kvs).isSome) {p.s with toks:=tk})->wpAny C.I A (compareOp .In u1 u2) Q E p.s)/\((∀tk,Q (.bool (!(bA k kvs).isSome)) {p.s with toks:=tk})->wpAny C.I A (compareOp .NotIn u1 u2) Q E p.s):=by
 obtain⟨a,e,n,y⟩:=y;subst e;have sy:=CV hs n
 induction b with
 |false=>
  obtain⟨i,e⟩:=mH hf;subst e;obtain⟨t,e⟩:=x;subst e;obtain⟨cF,d,r⟩:=y;rw[<-(r.at' (k:=i)).ap']
  exact⟨λH=>wpAny_in_of (knd:=intKind C.d C.w) (k:=i) (nV i t) sy d.mapOf (H _),λH=>wpAny_notIn_of (knd:=intKind C.d C.w) (k:=i) (nV i t) sy d.mapOf (H _)⟩
 |true=>
  have hr:=rY hf;refine x.x' hr λa' e x0=>?_
  subst e;obtain⟨xs,d,r,hx⟩:=y;letI:=j7;rw[<-(r.as' (k:=k) hx).ap',Option.isSome_map];exact⟨λH=>wpAny_in_heap (knd:=lW C) (k:=k) (vA hu) ⟨hr,x0⟩ sy d (H _),λH=>wpAny_notIn_heap (knd:=lW C) (k:=k) (vA hu) ⟨hr,x0⟩ sy d (H _)⟩
theorem Dt{v:MV}(h:v.O=some vs):v=.a (.f vs):=by obtain⟨x,e1,e2⟩:=fC h;exact(DA e1).trans (congrArg _ (kD e2))
theorem zt{s:St}{a:PV}{b:MV}{r:Bool}(h:tu s a b=some r)(k1:∀vs,b=.a (.f vs)->jK a vs=some r->G)(k2:∀vs,iI s b=some vs->jK a vs=some r->G)(k3:∀d,B7 s b=some d->iQ d.1 a=true->(bA a d.2).isSome=r->G):G:=
 lJ h (λh=>lJ h (λh=>by
  obtain⟨d,e1,h⟩:=fC h;by_cases hf:iQ d.1 a=true
  .rw[if_pos hf]at h;exact k3 d e1 hf (aq h)
  .rw[if_neg hf]at h;exact nn h) k2) λvs e h=>k1 vs (Dt e) h
theorem JN{v1:PV}(hu:A.units+20<cLine)(hs:eE C.b sysModules)(x:VR C p.W p.I v1 u1)(y:VM p v2 u2)(e0:tu p.m v1 v2=some b):
  ((∀tk,Q (.bool b) {p.s with toks:=tk})->wpAny C.I A (compareOp .In u1 u2) Q E p.s)/\((∀tk,Q (.bool (!b)) {p.s with toks:=tk})->wpAny C.I A (compareOp .NotIn u1 u2) Q E p.s):=by
 have ii:∀{vs},jK v1 vs=some b->∃k t,u1=.int k t/\vs.all isInt=true/\(vs.any λv=>rN v (.d k)==some true)=b:=λ{vs} e=>by
  by_cases h:(isInt v1&&vs.all isInt)=true
  .rw[jK,if_pos h]at e
   obtain⟨h1,h2⟩:=ak.mp h;obtain⟨k,e1⟩:=qq h1;subst e1;obtain⟨t,e2⟩:=x;exact⟨k,t,e2,h2,aq e⟩
  .rw[jK,if_neg h]at e;exact nn e
 refine zt e0 (λvs e1 e2=>?_) (λvs e1 e2=>?_) (λd e1 e2 e3=>?_)<;>clear e0
 .obtain⟨k,t,e3,hi,e4⟩:=ii e2;subst e1 e3 e4;refine VR.s' y λa items e g r J=>?_
  subst e;obtain⟨ns,z1,z2⟩:=Gh r hi k;rw[z2];exact⟨λH=>in_tuple_ints ⟨_,g.2,rfl,0,rfl⟩ z1 (H _),λH=>notin_tuple_ints ⟨_,g.2,rfl,0,rfl⟩ z1 (H _)⟩
 .obtain⟨k,t,e3,hi,e4⟩:=ii e2;subst e3 e4;refine(y.ls e1).ax' λa items n e g r z=>?_
  subst e;obtain⟨ns,z1,z2⟩:=Gh r hi k;rw[z2];exact⟨λH=>in_list_ints (vs:=items.toList) ⟨_,g,rfl,n,rfl⟩ z1 (H _),λH=>notin_list_ints (vs:=items.toList) ⟨_,g,rfl,n,rfl⟩ z1 (H _)⟩
 .subst e3;exact Qo hu hs x (y.dc e1) e2
theorem Qp{op:PM}{k:Bool->Prop}(hu:A.units+20<cLine)(hs:eE C.b sysModules)(x:VM p v1 u1)(y:VM p v2 u2)(h:AL op v1 v2 p.m k)(K:∀b tk,k b->Q (.bool b) {p.s with toks:=tk}):wpAny C.I A (compareOp (TM op) u1 u2) Q E p.s:=by
 have AP:∀{f:Int->Int->Bool},(pb v1 λa=>pb v2 λb=>ib a λx=>ib b λy=>ob (some (f x y)) k)->∃i t j t',u1=.int i t/\u2=.int j t'/\∀tk,Q (.bool (f i j)) {p.s with toks:=tk}:=λ{f} h=>iS h λa e1 h=>iS h λb e2 h=>pB h λi e3 h=>pB h λj e4 h=>by subst e3 e4 e1 e2;obtain⟨t,e1⟩:=x;obtain⟨t',e2⟩:=y;exact⟨i,t,j,t',e1,e2,λtk=>K _ tk h⟩
 induction op with
 |a=>exact dh h λb e h=>U1 hu x y e λtk=>K b tk h
 |c=>exact dh h λb e h=>U0 hu x y e λtk=>K b tk h
 |e=>obtain⟨i,t,j,t',rfl,rfl,H⟩:=AP (f:=λx y=>decide (x<y)) h;exact PySem.P.lt_int (H _)
 |h=>obtain⟨i,t,j,t',rfl,rfl,H⟩:=AP (f:=λx y=>decide (x<=y)) h;exact PySem.P.le_int (H _)
 |d=>obtain⟨i,t,j,t',rfl,rfl,H⟩:=AP (f:=λx y=>decide (x>y)) h;exact PySem.P.gt_int (H _)
 |f=>obtain⟨i,t,j,t',rfl,rfl,H⟩:=AP (f:=λx y=>decide (x>=y)) h;exact PySem.P.ge_int (H _)
 |b=>exact iS h λa e1 h=>dh h λb e h2=>by subst e1;exact(JN hu hs x y e).1 λtk=>K b tk h2
 |g=>exact iS h λa e1 h=>dh h λb e h2=>by subst e1;exact(JN hu hs x y e).2 λtk=>K _ tk h2

theorem JW(h:v.V=some i):v=.e i:=by induction v using PV.casesOn<;>first|exact congrArg _ (aq h)|exact nomatch (show none=some i from h)
def pQ(s:Shared)(u:Value):Prop:=∃T id,s.TypeIs u T/\typeLookup (.type T) "__getitem__"=pure (some (.builtin id))
theorem SD{j:Int}(h:kI vs j=some v)(k1:∀n:Nat,j=n->vs[n]?=some v->G)(k2:j= -1->vs[vs.length-1]?=some v->0<vs.length->G):G:=by
 unfold kI at h
 by_cases h0:0<=j
 .rw[if_pos h0]at h
  obtain⟨n,rfl⟩:=dm h0;exact k1 n rfl h
 .rw[if_neg h0]at h
  by_cases h1:j= -1
  .rw[if_pos h1,List.getLast?_eq_getElem?]at h
   exact k2 h1 h (bB (bI _) (aL.mp h).1)
  .rw[if_neg h1]at h;exact nn h
theorem Dv{j:Int}(h:j.toNat<n)(z:n<=100000):j<2^63:=Int.lt_of_le_of_lt (Int.self_le_toNat j) (Int.lt_trans (dK.mpr (aR h z)) (by decide))
theorem La{j:Int}{k:PV->St->Prop}(x:VR C p.W p.I (.f vs) u)(e:kI vs j=some v)(h:k v p.m)(K:rW p k Q):wpAny C.I A (getItem u (.int j t)) Q E p.s:=
 x.s' λa items ea g r z=>by
  subst ea;refine SD e (λn e1 e2=>?_) λe1 e2 e3=>?_
  .subst e1;obtain⟨u,q1,q2⟩:=r.L' e2;have hn:n<items.size:=r.F'▸(aL.mp e2).1;exact PySem.P.getItem_tuple (k:=n) g.2 (i8 (by decide) (bC n)) (Dv (j:=n) hn z) (seqIndex_of (bC _) (dK.mpr hn)) (by rwa [cg]at q1) (K.aJ' h _ q2)
  .subst e1;obtain⟨u,q1,q2⟩:=r.L' e2;rw[r.F',cg]at q1
   exact PySem.P.getItem_tuple (k:=items.size-1) g.2 (by decide) (by decide) (seqIndex?_neg_one (r.F'▸e3)) q1 (K.aJ' h _ q2)
theorem Lb{j:Int}{k:PV->St->Prop}(x:XF p vs u)(e:kI vs j=some v)(h:k v p.m)(K:rW p k Q):wpAny C.I A (getItem u (.int j t)) Q E p.s:=
 x.ax' λa items n ea g r z=>by
  subst ea;refine SD e (λn' e1 e2=>?_) λe1 e2 e3=>?_
  .subst e1;obtain⟨u,q1,q2⟩:=r.L' e2;have hn:n'<items.size:=r.F'▸(aL.mp e2).1;exact wpAny_getItem_list ⟨_,g,rfl,n,rfl⟩ (bC _) (Dv (j:=n') hn z) (by rwa [cg]at q1) (K.aJ' h _ q2)
  .subst e1;obtain⟨u,q1,q2⟩:=r.L' e2;rw[r.F']at e3
   rw[r.F',cg]at q1
   have z:((-1:Int)+(items.size:Int)).toNat=items.size-1:=X6 _;exact wpAny_getItem_list_neg (k:= -1) ⟨_,g,rfl,n,rfl⟩ (by decide) (Int.neg_le_neg (uL.mpr e3)) (by decide) (by rw[z];exact q1) (K.aJ' h _ q2)
theorem Lc{i:PV}{k:PV->St->Prop}(hu:A.units+20<cLine)(x:Nv p b kvs u)(y:VR C p.W p.I i ui)(hf:iQ b i=true)(e:bA i kvs=some v)(h:k v p.m)(K:rW p k Q):pQ p.s u/\wpAny C.I A (getItem u ui) Q E p.s:=by
 obtain⟨a,ea,n,x⟩:=x;subst ea
 induction b with
 |false=>
  obtain⟨j,ej⟩:=mH hf;subst ej;obtain⟨t,et⟩:=y;subst et;obtain⟨cF,d,r⟩:=x;obtain⟨w,e1,e2⟩:=r.at'.ao' e
  exact⟨⟨"dict",_,d.mapOf.typeIs,slot_dict_getitem.lookup⟩,wpAny_getItem_of (knd:=intKind C.d C.w) (k:=j) (nV j t) d.mapOf e1 (K.aJ' h _ e2)⟩
 |true=>
  have hr:=rY hf;refine y.x' hr λa' e' x0=>?_
  subst e';obtain⟨xs,d,r,hx⟩:=x;letI:=j7;obtain⟨w,e1,e2⟩:=(r.as' (k:=i) hx).ao' e;obtain⟨q,e3,e4⟩:=aC.mp e1;subst e4;exact⟨⟨"dict",_,d.typeIs,slot_dict_getitem.lookup⟩,wpAny_getItem_heap (knd:=lW C) (k:=i) (vA hu) ⟨hr,x0⟩ d e3 (K.aJ' h _ e2)⟩
theorem Cf{o i:MV}(hu:A.units+20<cLine)(x:VM p o uo)(y:VM p i ui)(h:nD o i p.m λv=>k v p.m)(K:mF p k Q):pQ p.s uo/\wpAny C.I A (getItem uo ui) Q E p.s:=
 iS h λi e h=>by
  subst e;refine qf h (λh=>qf h (λh=>qf h (λh=>?_) λd e h=>?_) λvs e h=>?_) λvs e h=>?_
  .refine dh h λc e h=>dh h λeK e2 h=>pB h λj e3 h=>fj h λe4 hk=>?_
   rw[lZ JW e]at x
   subst e3;obtain⟨t,et⟩:=y;subst et;obtain⟨a,ea,o⟩:=x;subst ea;obtain⟨c',e5,r⟩:=p.r.I o;obtain⟨c2,e6,e7⟩:=fC e2;obtain rfl:=si (e6.symm.trans e5);obtain rfl:=yL e7;obtain⟨i',items,n,e8,g,z1,z2,w⟩:=r
   cases e8
   obtain⟨h0,h1⟩:=of_decide_eq_true e4;have hn:j.toNat<items.size:=z1.symm▸h1;obtain⟨b,e9,ob⟩:=w j.toNat _ (fm hn);refine⟨⟨"list",_,⟨_,g,rfl⟩,slot_list_getitem.lookup⟩,wpAny_getItem_list ⟨_,g,rfl,n,rfl⟩ h0 (Dv hn z2) (fm hn) ?_⟩;rw[e9];exact K (p.tk _) (.e c j.toNat) (.ref b) (p.O _) ⟨b,rfl,ob⟩ hk
  .exact fj h λhf h=>dh h λv e2 h=>Lc hu (x.dc e) y hf e2 h K.pv
  .refine pB h λj e3 h=>dh h λv e4 hk=>?_
   subst e3;obtain⟨t,et⟩:=y;subst et;have l:=x.ls e;exact⟨l.ax' λa items n ea g r z=>ea▸⟨"list",_,⟨_,g,rfl⟩,slot_list_getitem.lookup⟩,Lb l e4 hk K.pv⟩
  .refine pB h λj e3 h=>dh h λv e4 hk=>?_
   subst e3;rw[Dt e]at x
   obtain⟨t,et⟩:=y;subst et;exact⟨VR.s' x λa items ea g r z=>ea▸⟨"tuple",_,⟨_,g.2,rfl⟩,ir.lookup⟩,La x e4 hk K.pv⟩

theorem vQ{Cv:S3}(o:p.W.d a=some (P,false))(hP:∀t,P≠ .d t)(g:p.I.get? a=some (b8 items n))(pa:lD p.W p.m cU P (.a Cv))(f:WA->WA)(hv:bR C p.W p.I Cv (f items).toList)(hb:(f items).size<=100000):
  ∃q:Pt C,q.s= {p.s with heap:=p.I.update a (Obj.mapSeq f)}/\q.m=cU/\Ex p q:=by
 have g':=IsL.update g f;refine⟨p.q' (p.I.update a (Obj.mapSeq f)) p.s.toks a P false (.a Cv) cU o hP (Heap.SameBut.update ..) (bS g') pa λK J b ob=>?_,rfl,rfl,p.s' ..⟩
 obtain rfl:=p.r.f a b _ o ob;exact⟨f items,_,g',bR.H' K _ _ hv,hb⟩
theorem EA{xs:aat}{k:PV}{a:Addr}{v:Value}{P:PV->Addr->Prop}(h:∀x∈xs,P x.1 x.2.1)(hk:P k a):∀x∈ @storedH PV j7 xs k a v,P x.1 x.2.1:=λx hx=>by
 letI:=j7;rcases mem_storedH hx with⟨y,hy,e1,e2⟩|⟨e1,e2⟩
 .rw[e1,e2];exact h y hy
 .rw[e1,e2];exact hk
theorem BH{K:Type}{enc:K->PV}{k:PV}{cF:List (K×Value)}(x:lU C W h enc (cY k v kvs) cF)(hl:kvs.length<100000):cF.length<=100000:=x.aw'▸aA (wh k v kvs) hl
theorem QV(xs:aat):(kvsOf xs).length=xs.length:=ao ..
theorem K8{i:PV}{k:St->Prop}{Q:Unit->Shared->Prop}(hu:A.units+20<cLine)(o:p.W.d a=some (P,false))(hP:∀t,P≠ .d t)(x:gr C p.W p.I P (.e b kvs) a)(y:VR C p.W p.I i ui)(z:VR C p.W p.I v u)(hf:iQ b i=true)(hl:kvs.length<100000)(pa:lD p.W p.m cU P (.e b (cY i v kvs)))(h:k cU)(K:Ze p k Q):wpAny C.I A (setItem (.ref a) ui u) Q E p.s:=by
 induction b with
 |false=>
  obtain⟨j,ej⟩:=mH hf;subst ej;obtain⟨t,et⟩:=y;subst et;obtain⟨ob,cF,g,d,kk,r,zl⟩:=x;have d':=d.of g;refine wpAny_setItem_pairs (knd:=intKind C.d C.w) (k:=j) (nV j t) d' (λh' dd hs=>?_) (gM zl)
  obtain⟨o',g',dO⟩:=tM.an' dd;refine K (p.q' h' (p.s.toks+1) a P false _ cU o hP hs (bS g') pa λKK J b fv=>?_) () (p.s' ..) h
  obtain rfl:=p.r.f a b _ o fv;obtain⟨J,J,J,J,J,J,J,J,nd⟩:=d';have w:=lU.ar' (enc:=PV.d) (k:=j) (VR.u' KK _ _ z) ⟨kk,bR.H' KK _ _ r⟩ nd λe J v=>tU j e.1 v
  exact⟨o',_,g',dO,w.1,w.2,BH w hl⟩
 |true=>
  have hr:=rY hf;obtain⟨ob,xs,g,⟨e1,es,ep,d1,d2,d3⟩,kk,r1,r2,zl⟩:=x;refine y.x' hr λa' e' x0=>?_
  subst e';letI:=j7;refine wpAny_setItem_heap (knd:=lW C) (k:=i) (vA hu) ⟨hr,x0⟩ ⟨ob,es,ep,g,e1,d1,d2,λx hx=>⟨(r1 x hx).1,VR.y' (tX (r1 x hx).1) (r1 x hx).2⟩,d3⟩ (λh' dd hs=>?_) (gM zl)
  obtain⟨o',Ja,ep',g',f1,f2,f3,J,f5⟩:=dd;refine K (p.q' h' _ a P false _ cU o hP hs (bS g') pa λKK J b fv=>?_) () (p.s' ..) h
  obtain rfl:=p.r.f a b _ o fv;have q1:(kvsOf xs).map (·.1)=xs.map (·.1):=eX ..;have q2:(kvsOf xs).map (·.2)=xs.map (·.2.2):=eX ..;have w:=lU.ar' (enc:=id) (k:=i) (kvs:=kvs) (cF:=kvsOf xs) (VR.u' KK _ _ z) ⟨kk.trans q1.symm,q2.symm▸bR.H' KK _ _ r2⟩ (q1.symm▸d3) λe he v=>by obtain⟨y,hy,rfl⟩:=bF.mp he;exact yj (r1 y hy).1 v
  have w:lU C p.W h' id (cY i v kvs) (stored (kvsOf xs) i u):=w;rw[<-kvsOf_storedH xs i a' u]at w
  refine⟨o',_,g',⟨f1,Ja,ep',f2,f3,f5⟩,w.1.trans (eX ..),λx hx=>?_,(show(kvsOf _).map (·.2)=_ from eX ..)▸w.2,QV _▸BH w hl⟩
  exact EA (P:=λk b=>qI k=true/\VR C p.W h' k (.ref b)) (λx hx=>⟨(r1 x hx).1,VR.u' KK _ _ (r1 x hx).2⟩) ⟨hr,VR.u' KK _ _ y⟩ x hx
theorem Hi{k:Int}{Q:Unit->Shared->Prop}(g:s.heap.get? a=some (b8 items n))(h0:0<=k)(h1:k.toNat<items.size)(h2:k<2^63)(h:Q () {s with heap:=s.heap.update a (Obj.mapSeq (·.setIfInBounds k.toNat u))}):wpAny C.I A (setItem (.ref a) (.int k t) u) Q E s:=by
 have gl:s.heap.IsList a items:=⟨_,g,rfl,n,rfl⟩;unfold setItem;try with_reducible refine wpAny_holding ?_
 first|refine wpAny_bind (wpAny_pure ?_)|skip
 refine wpAny_bind (wpAny_sequenceKey gl.typeIs (by decide) ?_)
 refine wpAny_bind (wpAny_callSpecial?_slot (name:="__setitem__") gl.typeIs slot_list_setitem
  (wpAny_call_entry slot_list_setitem gl.typeIs entry_list_setitem ?_ (args_list_setitem _ _ _)))
 show wpAny _ _ (Builtin.List.listSubscript? (.int k t)>>=_) _ _ s;refine wpAny_bind (wpAny_listSubscript_int (fitsIndex_of h0 h2) ?_);obtain⟨j,rfl⟩:=dm h0;have hx:items[j]?=some items[j]:=fm h1;show wpAny _ _ ((seqItemAt a j>>=λr=>pure (r.map (j,·)))>>=_) _ _ s
 refine wpAny_bind (wpAny_bind (wpAny_seqItemAt g rfl (wpAny_pure ?_)));rw[hx];show wpAny _ _ (setSeqItemAt a j u>>=_) _ _ s;refine wpAny_bind (wpAny_setSeqItemAt g rfl ?_);first
  |exact wpAny_bind (wpAny_pure (wpAny_pure ⟨.none,rfl,wpAny_pure h⟩))
  |exact wpAny_pure ⟨.none,rfl,wpAny_pure h⟩
theorem Ce{o i v:MV}{k:St->Prop}{Q:Unit->Shared->Prop}(hu:A.units+20<cLine)(x:VM p o uo)(y:VM p i ui)(z:VM p v u)(h:rD o i v p.m k)(K:Ze p k Q):wpAny C.I A (setItem uo ui u) Q E p.s:=
 iS h λi e h=>iS h λv e2 h=>dh h λc e3 hc=>by
  subst e e2;refine qf hc (λh=>dh h λd e4 h=>fj h λe5 hk=>?_) λvs e4 h=>pB h λj e5 h=>fj h λe6 hk=>?_
  .have ec:=Td (b:=d.1) (kvs:=d.2) e4;subst ec;obtain⟨a,P,ea,o,hP,r,pa⟩:=x.ac' e3 (λe=>ah.noConfusion e) rfl
   subst ea;obtain⟨hf,hl⟩:=ak.mp e5;exact K8 hu o hP r y z hf (of_decide_eq_true hl) (pa _) hk K
  .have ec:=xJ e4;subst ec e5;obtain⟨a,P,ea,o,hP,⟨items,n,g,r,zl⟩,pa⟩:=x.ac' e3 (λe=>ah.noConfusion e) rfl
   subst ea;obtain⟨t,et⟩:=y;subst et;obtain⟨h0,h1⟩:=of_decide_eq_true e6;have TJ:j.toNat<items.size:=r.F'▸h1;obtain⟨q,q1,q2,q3⟩:=vQ o hP g (pa (.a (vs.set j.toNat v))) (·.setIfInBounds j.toNat u) (by rw[Array.toList_setIfInBounds];exact r.S' z j.toNat) (by rwa [Array.size_setIfInBounds])
   have eF:=K q () q3 (q2▸hk);rw[q1]at eF
   exact Hi g h0 TJ (Dv TJ zl) eF

structure lE(C:dX)(c:Nat)(k:iJ):Prop where
 a:(C.K c).In C.b
 b:plainGet (C.K c) (C.a c) (C.c 0)=true
 g:hasDictIn (C.K c) (C.a c)=true
 j:plainOver (C.K c) (C.a c)=true
 i:findIn (C.K c) (.ref (C.a c)) "__setattr__"=some (some (.builtin "object.__setattr__"))
 h:∀n,k.b.lookup n=none->n<C.h->findIn (C.K c) (.ref (C.a c)) (C.c n)=some none
 l:∀n f,k.b.lookup n=some f->n<C.h/\findIn (C.K c) (.ref (C.a c)) (C.c n)=some (some (.ref (C.e f)))/\isFn (C.K c) (.ref (C.e f))=true
 d:makesIn (C.K c) (C.a c)=true
 m:keepIn (C.K c) (.ref (C.a c))=true
 e:match k.a with
  |some f=>findIn (C.K c) (.ref (C.a c)) "__init__"=some (some (.ref (C.e f)))/\typeIn (C.K c) (.ref (C.e f))=some (.type "function")
  |none=>findIn (C.K c) (.ref (C.a c)) "__init__"=some (some (.builtin "object.__init__"))/\k.c=[]
structure tK(C:dX):Prop where
 inj:∀a b,a<C.h->b<C.h->C.c a=C.c b->a=b
 c:C.h=116
theorem Bg(name:Str)(hsh:Int)(key v:Value):∀es:aae,(putL name hsh key v es).length<=es.length+1
 |[]=>aH _
 |e::r=>by
  unfold putL
  induction e.key.isStr name with
  |true=>exact bL _
  |false=>exact cA (Bg name hsh key v r)
theorem QC{K:Frag}{x Cc:Addr}{name:Str}{tk:Tok}{v:Value}{R:Result->Shared->Prop}(X:K.In s.heap)(hx:s.heap.get? x=some (instObj Cc dx))(hd:s.heap.get? dx=some (dictOf es n))(hp:plainOver K Cc=true)(ht:takerIn K Cc name=some none)(hh:hasDictIn K Cc=true)(hs:es.any (·.refKey)=false)(hz:es.length<=1000)(h:∀h',h'.get? dx=some (dictOf (putL name (PyData.keyHash C.w.params name) (.str name s.toks) v es) (putN name es n))->Heap.SameBut dx s.heap h'->R (.ok (.ret .none)) {s with heap:=h',toks:=s.toks+1}):
  codeAny C.I A (.call (.builtin "object.__setattr__") ⟨[.ref x,.str name tk,v],[]⟩) R s:=by
 have I:InstAt s.heap x (instObj Cc dx) Cc (some (dictOf es n)):=⟨hx,rfl,rfl,hd⟩;refine osa_open X I hp ht λb=>?_
 obtain⟨cd,hc,hd'⟩:=any_some hh;refine wpAny_bind (wpAny_pure (wpAny_bind (wpAny_bind (wpAny_loadPart hx (wpAny_bind ((looks_clsIn X hc).here ?_))))));rw[hd'];refine wpAny_pure (a:=some dx) (wpAny_bind (wpAny_pure (wpAny_bind ?_)));unfold nsSet;refine wpAny_bind (wpAny_bind (wpAny_askSetting (wpAny_pure (wpAny_bind (wpAny_mkText (wpAny_bind (wpAny_loadPart hd ?_)))))));dsimp only;have c:(!es.toArray.any (·.key.isStr name)&&es.toArray.any (·.refKey))=false:=by rw[<-Array.any_toList,<-Array.any_toList];exact Bool.and_eq_false_iff.mpr (.inr hs)
 have D':(s.heap.update dx (Obj.putName name (PyData.keyHash C.w.params name) (.str name s.toks) v)).get? dx=some (dictOf (putL name (PyData.keyHash C.w.params name) (.str name s.toks) v es) (putN name es n)):=by
  have:=Heap.get?_update_self (Obj.putName name (PyData.keyHash C.w.params name) (.str name s.toks) v) hd (by rw[putName_dict];rfl)
  rw[putName_dict]at this
  exact this
 rw[aRefKeyMayBeTheName_at,c];refine wpAny_updatePart hd (wpAny_bind (wpAny_lookBehind D' (pastItsLine_dict ?_) (wpAny_pure (h _ D' (Heap.SameBut.update _ _ _)))));rw[List.size_toArray];exact dQ<|gM (aA (Bg name _ _ _ es) (aA (cA hz) (by decide)))
def AR(C:dX)(W:Wd)(h:Heap)(as:WL)(es:aae):Prop:=AK C (as.map (·.1)) es/\bR C W h (as.map (·.2)) (es.map (·.val))
theorem AR.aS'{P:WL->aae->Prop}(n:P [] [])(c:∀m v e as es,m<C.h->(∃t,e.key=.str (C.c m) t)->VR C W h v e.val->AR C W h as es->P as es->P ((m,v)::as) (e::es)){as:WL}:∀{es:aae},AR C W h as es->P as es:=by
 induction as with
 |nil=>
  intro es x;obtain rfl:=(show es=[]from x.1)
  exact n
 |cons a as ih=>
  intro es x;obtain⟨⟨e,r,e1,k1,k2,k3⟩,x⟩:=x;subst e1;obtain⟨u,us,e2,x1,x2⟩:=x
  cases e2
  exact c a.1 a.2 e as r k1 k2 x1 ⟨k3,x2⟩ (ih ⟨k3,x2⟩)
theorem AR.aT'{e:DictEntry}(a:m<C.h)(b:∃t,e.key=.str (C.c m) t)(c:VR C W h v e.val)(d:AR C W h as es):AR C W h ((m,v)::as) (e::es):=⟨⟨e,es,rfl,a,b,d.1⟩,.I' c d.2⟩
theorem By{e:DictEntry}{y:Str}(k:∃t,e.key=.str x t):e.key.isStr y=decide (x=y):=by
 obtain⟨t,k⟩:=k;rw[k];show(x==y)=_;by_cases h:x=y
 .rw[decide_eq_true h,beq_iff_eq.mpr h]
 .rw[decide_eq_false h,beq_eq_false_iff_ne.mpr h]
theorem yd{e:DictEntry}(k:∃t,e.key=.str x t):e.refKey=false:=by obtain⟨t,k⟩:=k;unfold DictEntry.refKey;rw[k]
theorem AR.aW'(x:AR C W h as es):es.any (·.refKey)=false:=x.aS' (P:=λJ es=>es.any (·.refKey)=false) rfl λJ J J J J J k J J ih=>by rw[dF,yd k,ih];rfl
theorem AR.aX'(x:AR C W h as es):es.length=as.length:=x.aS' (P:=λas es=>es.length=as.length) rfl λJ J J J J J J J J ih=>congrArg Nat.succ ih
theorem AR.aU'(N:tK C)(hn:n<C.h)(x:AR C W h as es):(iE n as=none/\getL (C.c n) es=some none)\/∃v u,iE n as=some v/\getL (C.c n) es=some (some u)/\VR C W h v u:=
 x.aS' (P:=λas es=>(iE n as=none/\getL (C.c n) es=some none)\/∃v u,iE n as=some v/\getL (C.c n) es=some (some u)/\VR C W h v u) (.inl ⟨rfl,rfl⟩) λm v e as es hm k hv J ih=>by
  have q:=By (y:=C.c n) k;by_cases z:m=n
  .subst z;rw[decide_eq_true rfl]at q
   refine .inr ⟨v,e.val,if_pos rfl,?_,hv⟩;unfold getL;rw[bK,q]
  .rw[decide_eq_false λw=>z (N.inj m n hm hn w)]at q
   have e2:getL (C.c n) (e::es)=getL (C.c n) es:=by unfold getL;rw[bK,q,dF,yd k,se]
   rw[e2];rcases ih with⟨a,b⟩|⟨v',u,a,b,c⟩
   .exact .inl ⟨(if_neg z).trans a,b⟩
   .exact .inr ⟨v',u,(if_neg z).trans a,b,c⟩
theorem AR.aV'(N:tK C){hsh:Int}(hn:n<C.h)(hv:VR C W h v u)(x:AR C W h as es):AR C W h (z4 n v as) (putL (C.c n) hsh (.str (C.c n) t) u es):=
 x.aS' (P:=λas es=>AR C W h (z4 n v as) (putL (C.c n) hsh (.str (C.c n) t) u es)) (.aT' hn ⟨t,rfl⟩ hv ⟨rfl,rfl⟩) λm v' e as es hm k YT r ih=>by
  have q:=By (y:=C.c n) k;unfold z4 putL;by_cases z:m=n
  .subst z;rw[decide_eq_true rfl]at q
   rw[q,if_pos rfl,if_pos rfl];exact .aT' hm k hv r
  .rw[decide_eq_false λw=>z (N.inj m n hm hn w)]at q
   rw[q,if_neg z,if_neg aO];exact .aT' hm k YT ih

def vN(p:Pt C)(c:Nat)(as:WL)(u:Value):Prop:=∃a dx es n,u=.ref a/\p.I.get? a=some (instObj (C.a c) dx)/\p.I.get? dx=some (dictOf es n)/\AR C p.W p.I as es
theorem vN.aZ'{c:Nat}(x:vN p c as u)(k:∀a dx es n,u=.ref a->p.I.get? a=some (instObj (C.a c) dx)->p.I.get? dx=some (dictOf es n)->AR C p.W p.I as es->G):G:=by obtain⟨a,dx,es,n,e,g,g2,r⟩:=x;exact k a dx es n e g g2 r
theorem IG.ba'{c:Nat}(x:IG C p.W p.I P c as a):vN p c as (.ref a):=by obtain⟨dx,es,n,g,J,g2,k,r⟩:=x;exact⟨a,dx,es,n,rfl,g,g2,k,r⟩
theorem AK.aY':∀{l:S5}{es:aae},AK C l es->l.length=es.length:=λ{l}=>by
 induction l with
 |nil=>rintro J rfl;rfl
 |cons n l ih=>rintro J ⟨e,r,rfl,J,J,x⟩;exact congrArg Nat.succ (ih x)
theorem UD{l:S5}(k:AK C l es)(r:bR C W h vs (es.map (·.val))):AR C W h (l.zip vs) es:=by
 have e1:vs.length=l.length:=by rw[r.K',ao,k.aY']
 refine⟨?_,?_⟩
 .rw[List.map_fst_zip (bZ e1.symm)];exact k
 .rw[List.map_snd_zip (bZ e1)];exact r
theorem Gi{x:Nat×S3}(h:v.d'=some x):v=.m x.1 x.2:=by induction v using PV.casesOn<;>first|(cases h;rfl)|exact nomatch (show none=some x from h)
theorem Sn{x:Nat×S3}(h:v.c'=some x):v=.l x.1 x.2:=by induction v using PV.casesOn<;>first|(cases h;rfl)|exact nomatch (show none=some x from h)
theorem VR.C'{c:Nat}(x:VR C p.W p.I (.m c vs) u):vN p c ((fZ c).zip vs) u:=by obtain⟨a,dx,es,n,e,g,g2,k,r⟩:=x;exact⟨a,dx,es,n,e,g.2,g2.2,UD k r⟩
theorem VR.D'{x:Nat×WL}(y:VR C p.W p.I (.e i) u)(e:p.m.b[i]?.bind ah.O=some x):vN p x.1 x.2 u:=by
 obtain⟨a,ea,o⟩:=y;obtain⟨c,e1,r⟩:=p.r.I o;obtain⟨c',e2,e3⟩:=fC e;obtain rfl:=si (e2.symm.trans e1);rw[yQ e3]at r
 exact ea▸r.ba'
theorem VR.E'(y:VR C p.W p.I (.l i vs) u):∃j,p.m.c[i]?=some j/\vN p 0 ((fZ 0).zip vs++[(5,.d j)]) u:=by
 obtain⟨⟨a,ea,o⟩,en⟩:=y;obtain⟨c,e1,r⟩:=p.r.I o;obtain⟨j,e2,e3⟩:=aC.mp e1;subst e3;rw[en]at r
 exact⟨j,e2,ea▸r.ba'⟩
theorem VS(x:VR C W h v u):handedIn u=true:=by
 induction v using PV.casesOn with
 |h=>subst x;rfl
 |g=>subst x;rfl
 |d=>obtain⟨t,rfl⟩:=x;rfl
 |k=>obtain⟨t,rfl⟩:=x;rfl
 |f=>obtain⟨a,J,J,rfl,J⟩:=x;rfl
 |j=>obtain⟨a,J,J,rfl,J⟩:=x;rfl
 |o=>obtain⟨a,J,J,rfl,J⟩:=x;rfl
 |m=>obtain⟨a,J,J,J,rfl,J⟩:=x;rfl
 |l=>obtain⟨⟨a,rfl,J⟩,J⟩:=x;rfl
 |e=>obtain⟨a,rfl,J⟩:=x;rfl
 |p=>obtain⟨J,rfl⟩:=x;rfl
 |n=>obtain⟨J,rfl⟩:=x;rfl
theorem Si{c:Nat}(h:M7 c n=true)(N:tK C)(k:∀x,gX c=some x->x.b.lookup n=none->n<C.h->G):G:=by
 unfold M7 at h
 induction e:gX c with
 |none=>rw[e]at h;exact ft h
 |some x=>
  rw[e]at h
  obtain⟨h1,h2⟩:=ak.mp h;exact k x e (kG.mp h1) (N.c.symm▸Nat.blt_eq.mp h2)
theorem p6{c:Nat}{v:PV}{u:Value}{Us:Bool}{k:PV->Prop}(N:tK C)(hc:∀c k,gX c=some k->lE C c k)(x:vN p c as u)(ho:M7 c n=true)(e:iE n as=some v)(h:k v)(K:∀v u t,VR C p.W p.I v u->k v->Q u {p.s with toks:=t}):wpAny C.I A (getAttr u (C.c n) Us) Q E p.s:=
 Si ho N λk hk hm hn=>x.aZ' λa dx es m ea g1 g2 ar=>by
  subst ea;have KK:=hc c k hk;rcases ar.aU' N hn with⟨q1,q2⟩|⟨v',u,q1,q2,q3⟩
  .exact nn (q1.symm.trans e)
  .obtain rfl:=si (q1.symm.trans e);have I:InstAt p.s.heap a (instObj (C.a c) dx) (C.a c) (some (dictOf es m)):=⟨g1,rfl,rfl,g2⟩;exact get_value (KK.a.keeps λb o e=>(p.r.i b o e).2) I (plainGet_of KK.b).1 (findObj_own KK.g (KK.h n hm hn) rfl q2) (VS q3) (K _ _ _ q3 h)
theorem yz(n:Nat)(l r:WL):iE n (l++r)=(iE n l).elim (iE n r) some:=by
 induction l with
 |nil=>rfl
 |cons a l ih=>
  show(if a.1=n then some a.2 else iE n (l++r))=_
  rw[show iE n (a::l)=if a.1=n then some a.2 else iE n l from rfl]
  by_cases h:a.1=n
  .rw[if_pos h,if_pos h];rfl
  .rw[if_neg h,if_neg h];exact ih
theorem BR{l:S5}(h:n∉l):∀vs:S3,iE n (l.zip vs)=none:=by
 induction l with
 |nil=>exactλJ=>rfl
 |cons a l ih=>
  intro vs
  induction vs using aQ with
  |nil=>rfl
  |cons v vs=>exact(if_neg λe:a=n=>h (e▸aj)).trans (ih (λm=>h (af _ m)) vs)
theorem uz{o:PV}{u:Value}{Us:Bool}{k:PV->Prop}(N:tK C)(hc:∀c k,gX c=some k->lE C c k)(x:VR C p.W p.I o u)(h:zI o n p.m k)(K:∀v u t,VR C p.W p.I v u->k v->Q u {p.s with toks:=t}):wpAny C.I A (getAttr u (C.c n) Us) Q E p.s:=
 qf h (λh=>qf h (λh=>dh h λi e h=>dh h λy e2 h=>fj h λho h=>dh h λv e3 h=>p6 N hc (VR.D' (JW e▸x) e2) ho e3 h K)
  λy e h=>fj h λho h=>by
   obtain⟨j,ej,V⟩:=VR.E' (Sn e▸x);by_cases h5:n=5
   .rw[if_pos h5]at h
    rw[ej]at h
    refine p6 N hc V ho (v:=.d j) ?_ h K;subst h5;rw[yz,BR (by decide)];rfl
   .rw[if_neg h5]at h
    refine dh h λv e3 h=>p6 N hc V ho (v:=v) ?_ h K
    rw[yz,e3];rfl)
  λy e h=>fj h λho h=>dh h λv e3 h=>p6 N hc (VR.C' (Gi e▸x)) ho e3 h K
theorem Vs(vs:S3)(j:Int):((fZ 0).zip vs++[((5:Nat),PV.d j)]).length<=6:=by rw[aa,List.length_zip];exact cA (Nat.min_le_left _ _)
theorem MQ{w:PV}{l:WL}(h:iE n l=none):z4 n v (l++[(n,w)])=l++[(n,v)]:=by
 induction l with
 |nil=>exact if_pos rfl
 |cons a l ih=>
  have h:(if a.1=n then some a.2 else iE n l)=none:=h
  by_cases e:a.1=n
  .rw[if_pos e]at h;exact sn h
  .rw[if_neg e]at h
   exact(if_neg e).trans (congrArg (a:: ·) (ih h))
theorem Vq(vs:S3)(i j:Int):z4 5 (.d j) ((fZ 0).zip vs++[(5,.d i)])=(fZ 0).zip vs++[(5,.d j)]:=MQ (BR (by decide) vs)
theorem A6{c:Nat}{k:St->Prop}{Q:Unit->Shared->Prop}(N:tK C)(hc:∀c k,gX c=some k->lE C c k)(hP:∀t,P≠ .d t)(x:IG C p.W p.I P c as a)(o:p.W.d a=some (P,false))(y:VR C p.W p.I v u)(ho:M7 c n=true)(hl:as.length<900)(pa:lD p.W p.m cU P (.g c (z4 n v as)))(h:k cU)(K:Ze p k Q):wpAny C.I A (setAttr (.ref a) (C.c n) u) Q E p.s:=
 Si ho N λkk hk hm hn=>by
  obtain⟨dx,es,m,g1,o1,g2,ar⟩:=x;have ar:AR C p.W p.I as es:=ar;have KK:=hc c kk hk;have X:=KK.a.keeps λb o e=>(p.r.i b o e).2
  have I:InstAt p.s.heap a (instObj (C.a c) dx) (C.a c) (some (dictOf es m)):=⟨g1,rfl,rfl,g2⟩;refine set_plain X I KK.i (QC (s:= {p.s with toks:=p.s.toks+1}) X g1 g2 KK.j (by unfold takerIn;rw[KK.h n hm hn];rfl) KK.g ar.aW' (by rw[ar.aX'];exact kQ ja oR [.b ja eH] rfl hl) λh' d' Ac=>?_)
  refine K (p.q' h' _ dx P true _ cU o1 hP Ac (bS d') pa λKK hb b ob=>?_) () (p.s' ..) h
  obtain rfl:=p.r.f a b _ o ob;have w:=AR.aV' (hsh:=PyData.keyHash C.w.params (C.c n)) (t:=p.s.toks+1) N hn (VR.u' KK _ _ y) (as:=as) (es:=es) ⟨ar.1,bR.H' KK _ _ ar.2⟩;exact⟨dx,_,_,(hb a λe=>by rw[e]at g1;cases g1.symm.trans g2).trans g1,o1,d',w.1,w.2⟩
theorem ux{o v:MV}{k:St->Prop}{Q:Unit->Shared->Prop}(N:tK C)(hc:∀c k,gX c=some k->lE C c k)(x:VM p o uo)(y:VM p v u)(h:zk o n v p.m k)(K:Ze p k Q):wpAny C.I A (setAttr uo (C.c n) u) Q E p.s:=
 iS h λv ev h=>by
  subst ev;refine qf h (λh=>dh h λx' e h=>fj h λe2 hk=>?_) λz e h=>pB h λj ej h=>fj h λe2 hk=>?_
  .obtain⟨c,e3,e4⟩:=fC e;have ec:=yQ e4;subst ec;obtain⟨ho,hl⟩:=ak.mp e2;obtain⟨a,P,ea,o,hP,r,pa⟩:=x.ac' e3 (λe=>ah.noConfusion e) rfl
   subst ea;exact A6 N hc hP r o y ho (of_decide_eq_true hl) (pa _) hk K
  .rw[lZ Sn e]at x
   subst ej;obtain⟨⟨a,ea,o⟩,en⟩:=x;subst ea;obtain⟨c,e3,r⟩:=p.r.I o;obtain⟨j',e4,e5⟩:=aC.mp e3;subst e5;obtain⟨h5,hl⟩:=ak.mp e2;obtain rfl:=bM h5;have w:=Vk (W:=p.W) (j':=j) e4;refine A6 (v:=.d j) N hc (λJ e=>Pl.noConfusion e) r o y (by decide) (bB (Vs _ _) (by decide)) ?_ hk K
   rw[Vq];exact w

section
variable{prog:Program}{w:World}{A:Around}{E:Value->Shared->Prop}{s:Shared}
theorem Ar{K:Type}[DecidableEq K]{knd:PySem.KeyKind prog w K}{d:Addr}{kvs:List (K×Value)}{ep:Nat}{Q:S9->Shared->Prop}(hh:A.handled=none)(lo:(d==sysModules)=false)(hd:s.heap.DictAt knd d kvs ep)(hn:kvs.length<=sizeLine)
  (h:∀h' tk(acc:WA),(∀b o,s.heap.get? b=some o->h'.get? b=some o)->ItemsOf (λi v=>∃k x,kvs[i]?=some (k,x)/\knd.is k v=true) acc kvs.length->Q acc.toList {s with heap:=h',toks:=tk}):
  wpAny (model prog w) A (collect (.ref d)) Q E s:=by
 have hl:d<s.heap.objs.size:=((kdl_dict (knd:=knd) (kvs:=kvs) (ep:=ep) lo).there s.heap hd).1;unfold collect;refine wpAny_bind (wpAny_runValue (codeAny_builtin entry_proto_collect' ?_));show wpAny _ _ (do again (.builtin "list.__iadd__" ⟨[<-newList [],.ref d],[]⟩)) _ _ s
 refine wpAny_bind (wpAny_newList (wpAny_pure ⟨Code.quiet_builtin _ (by decide+kernel),codeAny_builtin entry_list_iadd' ?_⟩))
 show wpAny _ _ (Builtin.List.listExtendWith (.ref s.heap.objs.size) (.ref d) (.ref s.heap.objs.size)) _ _ {s with heap:=s.heap.push (seqObj "list" #[] 0)}
 have ok:=(kdl_dict (knd:=knd) (kvs:=kvs) (ep:=ep) lo).keep s.heap (s.heap.push (seqObj "list" #[] 0)) hd λb J o e=>dU _ e
 rw[Around.under_plainId (show plainId "list.__iadd__"=true by decide+kernel) _]
 refine kdl_extend (R:=λr s'=>match r with
  |.ok (.ret v)=>wpAny (model prog w) A (match v with
   |.ref a=>(do
    match (<-load a).data with
    |.seq xs _=>pure xs.toList
    |_=>unsupported "internal:collect")
   |_=>unsupported "internal:collect") Q E s'
  |.ok _=>False
  |.error e=>E e s') (s:= {s with heap:=s.heap.push (seqObj "list" #[] 0)}) (kdl_dict (knd:=knd) (kvs:=kvs) (ep:=ep) lo) hh ok s.heap.objs.size (Nat.ne_of_gt hl) (Nat.ne_of_gt hl) _ 0 (bq _ rfl) ?_ hn
 intro h' tk acc c kp g io;refine wpAny_bind (wpAny_load g ?_);exact wpAny_pure (h h' tk acc (λb o e=>kp b o (pF (yZ e)) (dU _ e)) io)
theorem Cd{d:Addr}{kvs:aam}{ep:Nat}{Q:Value->Shared->Prop}(hh:A.handled=none)(lo:(d==sysModules)=false)(hd:s.heap.DictAt (PySem.intKind prog w) d kvs ep)(h64:kvs.length<64)
  (hI:∀acc:WA,ItemsOf (λi v=>∃k x,kvs[i]?=some (k,x)/\(PySem.intKind prog w).is k v=true) acc kvs.length->acc.size=kvs.length/\IntsAre acc.toList (kvs.map (·.1)))
  (h:∀(h1:Heap)(tk:Nat)(acc out:WA)(Tu:S1),(∀b o,s.heap.get? b=some o->h1.get? b=some o)->IntsAre out.toList Tu->Tu.Perm (kvs.map (·.1))->Tu.Pairwise (· <= ·)->
   Q (.ref h1.objs.size) {s with heap:=sortedHeap (h1.push (seqObj "list" acc.toList.toArray 0)) h1.objs.size acc.toList out,toks:=tk}):
  wpAny (model prog w) A (call (.builtin "sorted") [.ref d]) Q E s:=by
 refine Calls.call_function_entry kind_sorted plain_sorted entry_sorted (args_sorted1 _) ?_;unfold Builtin.«sorted»;refine wpAny_bind (m:=checkCount "sorted" 1 1 _) (wpAny_pure ?_);refine wpAny_bind (Ar hh lo hd (by rw[sizeLine_eq];exact kQ ja (.n 16777216) [.b ja NQ] rfl h64) λh1 tk acc kp io=>?_)
 obtain⟨e1,e2⟩:=hI acc io;have xo:acc.toList.length<64:=by rw[aY,e1];exact h64
 refine wpAny_bind (wpAny_newList ?_ (by rw[sizeLine_eq];exact kQ ja (.n 16777216) [.b ja NQ] rfl xo))
 have hoL:(h1.push (seqObj "list" acc.toList.toArray 0)).get? h1.objs.size=some (seqObj "list" acc.toList.toArray 0):=bq _ rfl;show wpAny _ _ _ _ _ {s with heap:=h1.push (seqObj "list" acc.toList.toArray 0),toks:=tk}
 refine wpAny_bind (wpAny_holding (wpAny_call_entry slot_list_sort ⟨_,hoL,rfl⟩ entry_list_sort (list_sort_tree (s:= {s with heap:=h1.push (seqObj "list" acc.toList.toArray 0),toks:=tk}) hoL e2 xo λout Tu a1 a2 a3=>⟨_,rfl,?_⟩) (args_list_sort _)))
 exact wpAny_pure ⟨_,rfl,h h1 tk acc out Tu kp a1 a2 a3⟩
end
theorem ou(k:Int):∀l:S1,(ig k l).Perm (k::l)
 |[]=>.refl _
 |x::r=>by
  unfold ig;split
  .exact .refl _
  .exact((ou k r).cons x).trans (.swap k x r)
theorem qL:∀l:S1,(mu l).Perm l
 |[]=>.refl _
 |x::r=>(ou x _).trans ((qL r).cons x)
theorem pY(k:Int):∀{l:S1},l.Pairwise (· <= ·)->(ig k l).Pairwise (· <= ·)
 |[],_=>by simp[ig]
 |x::r,h=>by
  rw[i7]at h
  unfold ig;split
  .rename_i q;rw[i7,i7];exact⟨λy hy=>by rcases aF.mp hy with rfl|hy;exact q;exact i8 q (h.1 y hy),h⟩
  .rename_i q;rw[i7];refine⟨λy hy=>?_,pY k h.2⟩
   rcases aF.mp ((ou k r).mem_iff.mp hy)with rfl|hy
   .exact iq ja jb [.b ja jb] rfl (Int.not_le.mp q)
   .exact h.1 y hy
theorem sj:∀l:S1,(mu l).Pairwise (· <= ·)
 |[]=>.nil
 |x::r=>pY x (sj r)
theorem Al{l ns:S1}(p:ns.Perm l)(h:ns.Pairwise (· <= ·)):ns=mu l:=List.Perm.eq_of_pairwise (λa b J J h1 h2=>Int.le_antisymm h1 h2) h (sj l) (p.trans (qL l).symm)
theorem HW:∀{kvs:S8}{ks:S1},uO kvs=some ks->kvs.map (·.1)=ks.map .d:=λ{kvs}=>by
 induction kvs with
 |nil=>intro ks h;obtain rfl:=si h;rfl
 |cons e r ih=>intro ks h;obtain⟨k,e1,h⟩:=fC h;obtain⟨ks',h',e2⟩:=aC.mp h;subst e2;rw[dD,l6 e1,ih h'];rfl
theorem ug{prog:Program}{w:World}{l:S9}:∀{cF:aam},l.length=cF.length->(∀(j:Nat)(v:Value),l[j]?=some v->∃k x,cF[j]?=some (k,x)/\(intKind prog w).is k v=true)->IntsAre l (cF.map (·.1)):=by
 induction l with
 |nil=>
  intro cF h J
  induction cF using aQ with
  |nil=>exact .nil
  |cons J J=>contradiction
 |cons v l ih=>
  intro cF h g
  induction cF using aQ with
  |nil=>contradiction
  |cons e cF=>obtain⟨k',x',e1,q⟩:=g 0 v rfl;obtain rfl:=si e1;obtain⟨t,e2⟩:=Value.isInt_shape q;subst e2;exact .cons _ _ (ih (pD h) λj v hj=>g (j+1) v hj)
theorem uv{l:S9}{ns:S1}(x:IntsAre l ns):bR C W h (ns.map .d) l:=by
 induction x with
 |nil=>rfl
 |cons i t J ih=>exact .I' ⟨t,rfl⟩ ih
theorem L6{a b:S1}(h:a.map PV.d=b.map PV.d):a=b:=by
 have:=congrArg (List.filterMap PV.J) h;have g:∀l:S1,(l.map PV.d).filterMap PV.J=l:=λl=>by
  induction l with
  |nil=>rfl
  |cons a l ih=>exact congrArg (a:: ·) ih
 rwa [g,g]at this
theorem Ef{kvs:S8}{ks:S1}{u:Value}{k:MV->St->Prop}{Q:Value->Shared->Prop}(hh:A.handled=none)(hs:eE C.b sysModules)(x:Nv p false kvs u)(hk:uO kvs=some ks)(hl:ks.length<64)(h:jT (.a ((mu ks).map .d)) p.m k)(K:w6 p k Q):
  wpAny C.I A (call (.builtin "sorted") [u]) Q E p.s:=by
 obtain⟨a,ea,n,cF,⟨od,Ja,ep,g',dd⟩,r⟩:=x;subst ea;have ek:cF.map (·.1)=ks:=L6 (by rw[eX];exact r.1.symm.trans (HW hk))
 have EQ:cF.length=ks.length:=by rw[<-ek,ao]
 refine Cd (ep:=ep) hh (CV hs n) ⟨od,Ja,g',dd⟩ (EQ▸hl) (λacc io=>⟨io.1,ug (by rw[aY];exact io.1) λj v hj=>io.2 j v (by rw[<-cg];exact hj)⟩) λh1 tk acc out Tu kp a1 a2 a3=>?_
 rw[ek]at a2
 have en:=Al a2 a3;subst en;have old:dY p.I (sortedHeap (h1.push (seqObj "list" acc.toList.toArray 0)) h1.objs.size acc.toList out):=λb o' e=>by
  have e1:=kp b o' e;have lt:=yZ e1;rw[sortedHeap_old (pF lt) (by rw[size_push'];exact gY lt)]
  exact dU _ e1
 obtain⟨m',gd⟩:=sortedHeap_at (h:=h1.push (seqObj "list" acc.toList.toArray 0)) (a:=h1.objs.size) (vs:=acc.toList) (n:=0) (out:=out) (bq _ rfl);have fresh:p.I.get? h1.objs.size=none:=dY.al' kp (cJ h1);have vr:=uv (C:=C) (W:=(p.d' _ tk old h1.objs.size fresh (bS gd)).W) (h:=(p.d' _ tk old h1.objs.size fresh (bS gd)).I) a1;refine K (p.d' _ tk old h1.objs.size fresh (bS gd)) (.a ((mu ks).map .d)) _ (p.f' ..) fresh ⟨Wd.O ..,⟨out,m',gd,vr,?_⟩,rfl,rfl⟩ h;rw[<-vr.F',ao,(qL ks).length_eq];exact kQ ja aX [.b ja NQ] rfl hl
noncomputable def Jz:BI->Value
 |.a=>.builtin "len"|.d=>.builtin "sorted"|.b=>.type "tuple"|.c=>.type "str"
theorem ED{a:Int}(h:0<=a/\a<10000000000):a.natAbs.log2<1920:=by
 by_cases z:a.natAbs=0
 .rw[z];decide
 .rw[Nat.log2_lt z];exact aR (show a.natAbs<2^34 from dK.mp (by rw[Int.natAbs_of_nonneg h.1];exact Int.lt_trans h.2 (by decide))) (Nat.pow_le_pow_right (by decide) (by decide))
theorem U3{b:BI}{v:MV}{u:Value}{k:MV->St->Prop}{Q:Value->Shared->Prop}(hh:A.handled=none)(hs:eE C.b sysModules)(x:VM p v u)(h:bi b v p.m k)(K:rW p (λv s=>k (.a v) s) Q)(F:w6 p k Q):wpAny C.I A (call (Jz b) [u]) Q E p.s:=by
 induction b with
 |a=>
  refine dh h λvs e hk=>(x.ls e).ax' λa items n ea g r z=>?_
  subst ea;exact PyProof.Rows.len_list ⟨_,g,rfl,n,rfl⟩ (X9 z) (K.aJ' hk _ ⟨_,by rw[r.F']⟩)
 |d=>
  refine dh h λd e h=>fj h λe2 h=>dh h λks e3 h=>fj h λe4 hk=>?_
  obtain⟨b,kvs⟩:=d
  induction b with
  |false=>exact Ef hh hs (x.dc e) e3 (of_decide_eq_true e4) hk F
  |true=>exact ft e2
 |b=>
  refine qf h (λh=>dh h λvs e h=>fj h λe2 hk=>(x.ls e).ax' λa items n ea g r z=>?_) λvs e hk=>?_
  .subst ea;refine call_tuple_list ⟨_,g,rfl,n,rfl⟩ (λh' kk=>?_) (gM z)
   exact K (p.m' (h'.push (jH items 0)) p.s.toks (dY.am' kk (dY.aj' _ _))) (.f vs) _ (p.g' ..) ⟨_,items,0,rfl,⟨p.V (dY.al' kk (cJ h')),bq _ rfl⟩,(r.G' (p.g' (D:=Ah) (B:=nj) ..):bR C _ _ vs items.toList),by rwa [aY]⟩ hk
  .rw[Dt e]at x
   have x0:=x;refine VR.s' x λa items ea g r z=>?_
   subst ea;exact call_tuple_tup ⟨_,g.2,rfl,0,rfl⟩ (K.aJ' hk _ x0)
 |c=>
  refine iS h λv ev h=>pB h λj ej h=>fj h λe hk=>?_
  subst ev ej;obtain⟨t,et⟩:=x;subst et;exact PySem.P.str_of_int (ED (of_decide_eq_true e)) (K.aJ' hk _ ⟨_,rfl⟩)

theorem pV(g:s.heap.get? a=some (b8 items n))(hz:items.size<=sizeLine)(h:Q .none {s with heap:=s.heap.update a (Obj.mapSeq (·.push u))}):wpAny C.I A (call (.builtin "list.append") [.ref a,u]) Q E s:=call_meets F.slot_list_append ⟨_,g,rfl⟩ F.entry_list_append (F.args_list_append_2 _ _) (list_append a items n u hz) ⟨g,h⟩
theorem size_push{xs:WA}(r:vs.length=xs.size)(h:vs.length<100000):(xs.push u).size<=100000:=by rw[oQ,<-r];exact h
theorem KG(o:p.W.d a=some (P,false))(hP:∀t,P≠ .d t)(r:Uh C p.W p.I vs a)(y:VR C p.W p.I v u)(hl:vs.length<100000)(pa:lD p.W p.m cU P (.a (vs++[v])))(h:k (.a .h) cU)(K:mF p k Q):
  wpAny C.I A (call (.builtin "list.append") [.ref a,u]) Q E p.s:=by
 obtain⟨items,n,g,r,z⟩:=r;obtain⟨q,q1,q2,q3⟩:=vQ o hP g pa (·.push u) (by rw[Array.toList_push];exact r.N' (.P' y)) (size_push r.F' hl)
 have:=K q (.a .h) .none q3 rfl (q2▸h);rw[q1]at this
 exact pV g (gM z) this
theorem HR(h:st.b[i]?=some (.f eK)):aW W (st.J (·.set i (.f (eK++[vs])))) (.f i)=some (.f (eK++[vs]))/\aW W (st.J (·.set i (.f (eK++[vs])))) (.e i eK.length)=some (.a vs)/\
  ∀Q c,Q≠ .f i->aW W st Q=some c->aW W (st.J (·.set i (.f (eK++[vs])))) Q=some c:=by
 obtain⟨pm,rg,ni⟩:=st;have hi:=(aL.mp h).1;have e:(pm.set i (.f (eK++[vs])))[i]?=some (.f (eK++[vs])):=bJ hi;refine⟨e,?_,λQ c hQ hc=>?_⟩
 .show(((pm.set i (.f (eK++[vs])))[i]?.bind ah.I).bind (·[eK.length]?)).map ah.a=_;rw[e];show((eK++[vs])[eK.length]?).map ah.a=_;rw[bu];rfl
 .induction Q with
  |f j=>exact(bG λz=>hQ (congrArg Pl.f z.symm)).trans hc
  |e j l=>
   change((pm[j]?.bind ah.I).bind (·[l]?)).map ah.a=some c at hc
   show(((pm.set i (.f (eK++[vs])))[j]?.bind ah.I).bind (·[l]?)).map ah.a=some c;by_cases z:i=j
   .subst z;rw[show pm[i]?=some (.f eK)from h]at hc
    rw[e];change(eK[l]?).map ah.a=some c at hc
    show((eK++[vs])[l]?).map ah.a=some c;obtain⟨ws,e1,e2⟩:=aC.mp hc;rw[aZ (aL.mp e1).1];exact hc
   .rw[bG z];exact hc
  |_=>exact hc
theorem yY{b:Addr}{k:Pl×Bool}{k':aaa}(ha:W.d a=some k)(x:qe W h b o):(W.I a k').d b=none:=(Wd.J _ _ λe=>by have:=x.1;rw[e,ha]at this;exact sn this).trans x.1
theorem sM{b:Addr}{k0 k1:Pl×Bool}(ob:W.d b=some k0){c:Addr}{k:Pl×Bool}(hk:k≠k0)(e:W.d c=some k):(W.I b (some k1)).d c=some k:=(Wd.J _ _ λq=>hk (by rw[q,ob]at e;exact(aq e).symm)).trans e
theorem zF{b:Addr}{k1:Pl×Bool}(oa:W.d a=some (.f i,false))(ob:W.d b=some (.b l j,false))(hs:∀c,c≠a->h'.get? c=h.get? c):g9 W h (W.I b (some k1)) h':=⟨λc o x=>⟨yY ob x,(hs c λe=>by have:=x.1;rw[e,oa]at this;exact sn this).trans x.2⟩,λc i e=>sM ob (λq=>nomatch q) e,λc i e=>⟨sM ob (λq=>nomatch q) e,rfl⟩⟩
theorem Vu{b:Addr}{m:Nat}{k0:Pl×Bool}(ob:W.d b=some k0)(hk:∀m,((.e i m,false):Pl×Bool)≠k0)(g:h'.get? a=some (b8 (items.push (.ref b)) n))(z:items.size=eK.length)(hl:eK.length<100000)(w:∀(j:Nat) u,items[j]?=some u->∃b,u=.ref b/\W.d b=some (.e i j,false)):X7 (W.I b (some (.e i eK.length,false))) h' (.f i) (eK++[vs]) a:=by
 refine⟨i,_,n,rfl,g,?_,?_,λm u hm=>?_⟩
 .rw[oQ,aa,z];rfl
 .rw[oQ,z];exact hl
 .rw[Array.getElem?_push]at hm
  by_cases q:m=items.size
  .rw[if_pos q]at hm
   exact⟨b,(aq hm).symm,by rw[q,z];exact Wd.O ..⟩
  .rw[if_neg q]at hm
   obtain⟨b',e3,e4⟩:=w m u hm;exact⟨b',e3,sM ob (hk m) e4⟩
theorem zE(hs:∀c,c≠a->h'.get? c=h.get? c)(la:eE h' a)(c:Addr)(x:eE h c):eE h' c:=by
 by_cases e:c=a
 .exact e▸la
 .exact(show(h'.get? c).isSome=true from(hs c e).symm▸x)
theorem Vt{st2:St}{b:Addr}{k1:Pl}{c0 c1:ah}(R:w4 C W h st)(hk:∀t,k1≠ .d t)(oa:W.d a=some (.f i,false))(ob:W.d b=some (.b l j,false))(hs:∀c,c≠a->h'.get? c=h.get? c)(la:eE h' a)(new:∀c,W.d c≠some (k1,false))(pa:lD W st st2 (.b l j) .d)(l3:∀Q c,Q≠ .f i->aW W st2 Q=some c->aW W cU Q=some c)(l1:aW W cU (.f i)=some c0)(l2:aW W cU k1=some c1)(r0:gr C (W.I b (some (k1,false))) h' (.f i) c0 a)(r1:gr C (W.I b (some (k1,false))) h' k1 c1 b):w4 C (W.I b (some (k1,false))) h' cU:=by
 refine R.O (zF oa ob hs) (λc J J e=>sM ob (λq=>nomatch q) e) (Wd.d' R.f λc k' n e x=>new c (e▸x)) (λc k e=>?_) (λc t x e=>?_) λc P y e=>?_
 .exact(Wd.V e).elim (λz=>z.1▸zE hs la b (R.d b _ ob)) λz=>zE hs la c (R.d c k z.2)
 .exact(Wd.V e).elim (λz=>absurd (congrArg Prod.fst (aq z.2)) (hk t)) λz=>R.g c t x z.2
 .refine(Wd.V e).elim (λz=>.inr ?_) λz=>?_
  .cases z.2
   exact⟨c1,l2,λJ=>z.1▸r1⟩
  .by_cases hP:P=.f i
   .exact .inr ⟨c0,hP▸l1,λhy=>R.f a c _ oa (hP▸hy▸z.2)▸hP▸r0⟩
   .by_cases hk:P=.b l j
    .exact .inr ⟨.d,hk▸l3 _ _ (λe=>Pl.noConfusion e) pa.a,λJ=>trivial⟩
    refine .inl ⟨z.2,λd x f=>⟨sM ob (λy=>hk (congrArg Prod.fst y)) f,hs d λy=>hP ?_⟩,λc' Xv=>?_⟩
    .rw[y,oa]at f;exact(congrArg Prod.fst (aq f)).symm
    .obtain⟨c2,f1,f2⟩:=pa.b P hk c' Xv;exact⟨c2,l3 P c2 hP f1,f2⟩
theorem Vv{st2:St}{b:Addr}{k1:Pl×Bool}(oa:p.W.d a=some (.f i,false))(ob:p.W.d b=some (.b l j,false))(hs:∀c,c≠a->h'.get? c=p.I.get? c)(la:eE h' a)(pa:lD p.W p.m st2 (.b l j) .d)(l3:∀Q c,Q≠ .f i->aW p.W st2 Q=some c->aW p.W cU Q=some c)(hl:cU.a.length=st2.a.length)(R):Ex p ⟨p.W.I b (some k1),{p.s with heap:=h'},cU,R⟩:=by
 have KK:=zF (k1:=k1) oa ob hs;refine⟨rfl,KK.b,λc k e=>?_,λc t e J=>hs c λz=>(by rw[z,oa]at e;cases e),λJ J J J=>rfl,λk g=>?_,hl.trans pa.d,λc J=>zE hs la c⟩
 .by_cases hk:k=(.b l j,false)
  .rw[hk];exact .inr (.inl (l3 (.b l j) .d (λq=>nomatch q) pa.a))
  .exact .inl (sM ob hk e)
 .refine .inl ?_;have:=pa.e k g
  induction k with
  |b l' j'=>exact l3 (.b l' j') .d (λq=>nomatch q) this
  |_=>exact this.elim
theorem Ij{b:Addr}{st2:St}(oa:p.W.d a=some (.f i,false))(hi:st2.b[i]?=some (.f eK))(hi0:p.m.b[i]?=some (.f eK))(ob:p.W.d b=some (.b l j,false))(rb:Uh C p.W p.I vs b)(pa:lD p.W p.m st2 (.b l j) .d)(hl:eK.length<100000)(h:k (.a .h) (st2.J (·.set i (.f (eK++[vs])))))(K:mF p k Q):
  wpAny C.I A (call (.builtin "list.append") [.ref a,.ref b]) Q E p.s:=by
 obtain⟨c,e1,r⟩:=p.r.I oa;obtain rfl:=si (hi0.symm.trans e1);obtain⟨i',items,n,e2,g,z1,z2,w⟩:=r
 cases e2
 have g':=IsL.update g (·.push (.ref b));have hs:∀c,c≠a->(p.I.update a (Obj.mapSeq (·.push (.ref b)))).get? c=p.I.get? c:=λc hc=>Heap.get?_update_other _ _ (gE hc)
 obtain⟨l1,l2,l3⟩:=HR (W:=p.W) (vs:=vs) hi;have new:∀c,p.W.d c≠some (.e i eK.length,false):=p.r.V (by show((p.m.b[i]?.bind ah.I).bind (·[eK.length]?)).map ah.a=none;rw[hi0];show(eK[eK.length]?).map ah.a=none;rw[aV (aH _)];rfl)
 obtain⟨it,m,g2,r2,z3⟩:=rb;have Ad:b≠a:=λe=>by rw[e,oa]at ob;cases ob
 have R:=Vt (k1:=.e i eK.length) p.r (λJ e=>Pl.noConfusion e) oa ob hs (bS g') new pa l3 l1 l2 (Vu (m:=n) ob (λJ e=>Pl.noConfusion (congrArg Prod.fst e)) g' z1 hl w) ⟨it,m,(hs b Ad).trans g2,bR.H' (zF oa ob hs) _ _ r2,z3⟩
 exact pV g (gM z2) (K ⟨_,{p.s with heap:=p.I.update a (Obj.mapSeq (·.push (.ref b)))},_,R⟩ (.a .h) .none (Vv oa ob hs (bS g') pa l3 rfl R) rfl h)

theorem Lh{c:Nat}(x:VM p (.e c j) uo)(y:VR C p.W p.I v u)(e1:p.m.b[c]?=some (.f eK))(e2:eK[j]?=some vs)(hl:vs.length<100000)(h:k (.a .h) (p.m.J (·.set c (.f (eK.set j (vs++[v]))))))(K:mF p k Q):
  wpAny C.I A (call (.builtin "list.append") [uo,u]) Q E p.s:=by
 obtain⟨a,ea,o⟩:=x;obtain⟨c',e3,r⟩:=p.r.I o;have e4:aW p.W p.m (.e c j)=some (.a vs):=by show((p.m.b[c]?.bind ah.I).bind (·[j]?)).map ah.a=_;rw[e1];show(eK[j]?).map ah.a=_;rw[e2];rfl
 obtain rfl:=si (e4.symm.trans e3);rw[ea];exact KG o (λJ e=>Pl.noConfusion e) r y hl (Qz e1 e2) h K
theorem VM.ae'{v:MV}(x:VM p v u)(e:l9 p.m v=some (.f eK)):∃a i,u=.ref a/\p.W.d a=some (.f i,false)/\p.m.b[i]?=some (.f eK)/\v=.a (.e i):=by
 have wP:∀{a P},p.W.d a=some (P,false)->aW p.W p.m P=some (.f eK)->∃i,P=.f i:=λ{a P} o q=>by obtain⟨c',e1,r⟩:=p.r.I o;obtain rfl:=si (q.symm.trans e1);obtain⟨i,J,J,e2,J⟩:=r;exact⟨i,e2⟩
 induction v with
 |a v=>induction v using PV.casesOn with
  |e i=>obtain⟨a,e1,o⟩:=x;exact⟨a,i,e1,o,e,rfl⟩
  |_=>exact nn e
 |b d i=>
  obtain⟨hd,x⟩:=x;have q:=vB hd i;rcases x with x|⟨a,e1,o⟩
  .cases (show qP _ _ i=some .d from x).symm.trans (q.trans e)
  .obtain⟨i',e2⟩:=wP o (q.trans e);contradiction
 |e=>exact nn e
theorem Vn{v:MV}{x:Nat×Nat}(h:v.c'=some x):v=.b x.1 x.2:=by induction v<;>first|(cases h;rfl)|exact nomatch (show none=some x from h)
theorem VM.ad'(x:VM p (.b d i) u)(e:p.m.a[d]?.bind (·[i]?)=some c)(hc:c≠ .d):∃a,u=.ref a/\p.W.d a=some (.b (p.m.a.length-1-d) i,false)/\gr C p.W p.I (.b (p.m.a.length-1-d) i) c a:=by
 obtain⟨hd,x⟩:=x;have q:=(vB hd i).trans e;rcases x with x|⟨a,e1,o⟩
 .exact absurd (aq ((show qP _ _ i=some .d from x).symm.trans q)).symm hc
 .obtain⟨c',e2,r⟩:=p.r.I o;obtain rfl:=aq ((show aW p.W p.m (.b _ i)=some c from q).symm.trans e2)
  exact⟨a,e1,o,r⟩
theorem Lg{o v:MV}(x:VM p o uo)(y:VM p v u)(e:l9 p.m o=some (.f eK))(h:Js v p.m λc s=>ob c.J λvs=>gb (decide (eK.length<100000)) (k (.a .h) (pA s o (.f (eK++[vs])))))(K:mF p k Q):
  wpAny C.I A (call (.builtin "list.append") [uo,u]) Q E p.s:=by
 obtain⟨a,i,ea,oa,ei,eo⟩:=x.ae' e;refine dh h λz e0 h=>dh h λc e1 h=>dh h λvs e2 h=>fj h λe3 hk=>?_
 have ev:=Vn e0;have ec:=xJ e2;subst ev ec;obtain⟨b,eb,ob,r⟩:=y.ad' e1 λe=>ah.noConfusion e
 rw[ea,eb];subst eo;exact Ij (st2:=p.m.I (eV · z.1 z.2 .d)) oa ei ei ob r (zy e1 λe=>ah.noConfusion e) (of_decide_eq_true e3) hk K
theorem Ei{o v:MV}(x:VM p o uo)(y:VM p v u)(h:rG o v p.m λs=>k (.a .h) s)(K:mF p k Q):wpAny C.I A (call (.builtin "list.append") [uo,u]) Q E p.s:=
 qf h (λh=>dh h λc e h=>qf h (λh=>dh h λeK e2 h=>Lg x y (yL e2▸e) h K) λvs e2 h=>iS h λv' e3 h=>fj h λe4 h=>by
   obtain⟨a,P,ea,o,hP,r,pa⟩:=x.ac' (xJ e2▸e) (λe=>ah.noConfusion e) rfl
   rw[ea];exact KG o hP r (show VR C p.W p.I v' u from(show VM p (.a v') u from e3▸y)) (of_decide_eq_true e4) (pa _) h K)
  λz e h=>dh h λeK e1 h=>dh h λvs e2 h=>iS h λv' e3 h=>fj h λe4 h=>by obtain⟨c,e5,e6⟩:=fC e1;exact Lh (Di e▸x) (show VM p (.a v') u from e3▸y) (yL e6▸e5) e2 (of_decide_eq_true e4) h K
theorem wJ(items:WA):(items.eraseIdxIfInBounds (items.size-1)).toList=items.toList.dropLast:=by
 unfold Array.eraseIdxIfInBounds;by_cases h:items.size-1<items.size
 .rw[dif_pos h,Array.toList_eraseIdx,show items.size-1=items.toList.length-1 by rw[aY]]
  exact List.eraseIdx_length_sub_one ..
 .rw[dif_neg h];have:items.toList=[]:=lG.mp (by rw[aY];exact Nat.eq_zero_of_not_pos λq=>h (Nat.sub_one_lt_of_lt q))
  rw[this];rfl
theorem Qm{o:MV}(x:VM p o uo)(h:ob ((l9 p.m o).bind ah.J) λvs=>ob vs.getLast? λv=>k (.a v) (pA p.m o (.a vs.dropLast)))(K:mF p k Q):wpAny C.I A (call (.builtin "list.pop") [uo]) Q E p.s:=
 dh h λvs e h=>dh h λv e2 h=>by
  obtain⟨c,e3,e4⟩:=fC e;obtain⟨a,P,ea,o,hP,⟨items,n,g,r,z⟩,pa⟩:=x.ac' (xJ e4▸e3) (λe=>ah.noConfusion e) rfl
  rw[List.getLast?_eq_getElem?]at e2
  obtain⟨u,q1,q2⟩:=r.L' e2;rw[r.F',cg]at q1
  obtain⟨q,s1,s2,s3⟩:=vQ o hP g (pa _) (λxs=>xs.eraseIdxIfInBounds (items.size-1)) (by rw[wJ];exact r.Q') (by rw[<-aY,wJ,xx,aY];exact aA (Nat.sub_le _ _) z)
  have:=K q (.a v) u s3 (q2.v' s3) (s2▸h);rw[s1]at this
  rw[ea];exact call_meets F.slot_list_pop ⟨_,g,rfl⟩ F.entry_list_pop (F.args_list_pop_1 _) (MeetsSeq.list_pop_last a items n u q1 (gM z)) ⟨g,this⟩
theorem Le{i d:PV}{ud:Value}{k:PV->St->Prop}(hu:A.units+20<cLine)(hs:eE C.b sysModules)(x:Nv p b kvs u)(y:VR C p.W p.I i ui)(z:VR C p.W p.I d ud)(hf:iQ b i=true)(h:k ((bA i kvs).getD d) p.m)(K:rW p k Q):
  wpAny C.I A (call (.builtin "dict.get") [u,ui,ud]) Q E p.s:=by
 obtain⟨a,ea,n,x⟩:=x;have sy:=CV hs n;rw[ea]
 induction b with
 |false=>
  obtain⟨j,ej⟩:=mH hf;rw[ej]at y h
  obtain⟨t,et⟩:=y;rw[et];obtain⟨cF,dd,r⟩:=x;refine call_meetsIn qK dd.mapOf.typeIs F.entry_dict_get (F.args_dict_get_3 _ _ _) (meets_dict_get_default (intKind C.d C.w) a (nV j t) sy ud) ⟨_,dd.mapOf,?_⟩;rcases r.at' (k:=j)with⟨q1,q2⟩|⟨v',u,q1,q2,q3⟩
  .rw[q2];rw[q1]at h;exact K.aJ' h _ z
  .rw[q2];rw[q1]at h;exact K.aJ' h _ q3
 |true=>
  have hr:=rY hf;refine y.x' hr λa' e' x0=>?_
  rw[e'];obtain⟨xs,dd,r,hx⟩:=x;letI:=j7;refine call_meetsIn qK dd.typeIs F.entry_dict_get (F.args_dict_get_3 _ _ _) (meetsH_dict_get_default (lW C) a a' sy ud) ⟨vA hu,i,xs,⟨hr,x0⟩,dd,?_⟩;rcases r.as' (k:=i) hx with⟨q1,q2⟩|⟨v',u,q1,q2,q3⟩
  .rw[mj.mp q2];rw[q1]at h;exact K.aJ' h _ z
  .obtain⟨q,w1,w2⟩:=aC.mp q2;rw[w1];rw[q1]at h;exact K.aJ' h _ (show VR C p.W p.I v' q.2 from w2.symm▸q3)
theorem Ko{args:WC}{f:PV->PV->Prop}{us:S9}(h:B4 name args f)(x:∀a b,args=[.a a,.a b]->f a b->name=21->G):G:=by
 by_cases hn:name=21
 .rw[hn]at h
  match args,h with
  |[a,b],h=>exact iS h λa e1 h=>iS h λb e2 h=>x a b (by rw[e1,e2]) h hn
 .delta B4 B4.match_1 at h
  rw[dif_neg hn]at h
  exact h.elim

structure mT(A:Around)(n:Nat):Prop where
 b:A.handled=none
 d:A.depth+n+4<=recursionLimit
 c:A.units+5*n+60<cLine
theorem mT.O(x:mT A (n+1))(a:Addr)(us:S9):mT (A.under (.builtin "type.__call__" ⟨.ref a::us,[]⟩)) n:=⟨x.b,by have:=x.d;show A.depth+1+n+4<=_;exact pR (.a (.a (.a ja aU) jb) qz) jc [.a (.a (.a ja (.a jb aU)) qz) jc] rfl this,by have:=x.c;show A.units+1+5*n+60<_;exact lS (.a (.a (.a ja aU) (.m 5 jb)) ki) jc [.b (.a (.a ja (.m 5 (.a jb aU))) ki) jc] rfl this⟩
theorem mT.V(x:mT A (n+1))(env:Env):mT (A.deeper env) n:=⟨x.b,by have:=x.d;show A.depth+1+n+4<=_;exact pR (.a (.a (.a ja aU) jb) qz) jc [.a (.a (.a ja (.a jb aU)) qz) jc] rfl this,by have:=x.c;show A.units+3+5*n+60<_;exact lS (.a (.a (.a ja GC) (.m 5 jb)) ki) jc [.b (.a (.a ja (.m 5 (.a jb aU))) ki) jc] rfl this⟩
theorem mT.J(x:mT A (n+1)):mT A n:=⟨x.b,by have:=x.d;exact pR (.a (.a ja jb) qz) jc [.a (.a (.a ja (.a jb aU)) qz) jc] rfl this,by have:=x.c;exact lS (.a (.a ja (.m 5 jb)) ki) jc [.b (.a (.a ja (.m 5 (.a jb aU))) ki) jc] rfl this⟩
theorem mT.I(x:mT A n):A.units+20<cLine:=by have:=x.c;exact lS (.a ja iT) jb [.b (.a (.a ja (.m 5 jc)) ki) jb] rfl this
def nQ(env:Env)(a:Addr):Prop:=a=env.locals\/∃n,env.cells.lookup n=some a
structure mC(env:Env):Prop where
 a:env.scope.kind=.function
 c:env.globals=mainGlobals
 d:env.builtins=builtinsNs
 b:∀n,env.kindOf n=some .cell->(env.cells.lookup n).isSome=true
def Holds(env:Env)(h:Heap)(m:Str->V9)(n:Str)(u:Value):Prop:=(env.kindOf n=some .local/\m n=some u)\/(env.kindOf n=some .cell/\∃c,env.cells.lookup n=some c/\h.IsCell c (some u))
structure fk{C:dX}(sl:WE)(env:Env)(p:Pt C)(loc:dj):Prop where
 r:∀a,nQ env a->p.W.d a=some (.d a,false)
 s:∀n c,env.cells.lookup n=some c->(∃v,p.I.IsCell c v)/\c≠env.locals
 G:env.cells.Pairwise λx y=>x.2≠y.2
 F:∃m,p.I.Ns env.locals m/\∀n i v,sl.lookup n=some i->loc[i]?=some (some v)->∃u,Holds env p.I m n u/\VM p v u
variable{env:Env}{sl:WE}
theorem IsCell.I{c:Addr}{v:V9}(e:h'.get? c=h.get? c)(x:h.IsCell c v):h'.IsCell c v:=by obtain⟨o,ho,hd⟩:=x;exact⟨o,e.trans ho,hd⟩
theorem Holds.bb'{m:Str->V9}{n:Str}(kk:∀n c,env.cells.lookup n=some c->h'.get? c=h.get? c)(x:Holds env h m n u):Holds env h' m n u:=by
 rcases x with x|⟨a,c,e,x⟩
 .exact .inl x
 .exact .inr ⟨a,c,e,IsCell.I (kk n c e) x⟩
theorem fk.I(L:fk sl env p loc)(x:eY D nj p q)(hD:∀a,nQ env a->¬D a):fk sl env q loc:=by
 have kl:∀a,nQ env a->q.I.get? a=p.I.get? a:=λa f=>x.c a a (L.r a f) (hD a f)
 obtain⟨m,hm,hv⟩:=L.F;refine⟨λa f=>x.O (L.r a f) (λJ J e=>Pl.noConfusion e) λJ=>hD a f,λn c e=>?_,L.G,m,hm.at λo e=>(kl _ (.inl rfl)).trans e,λn i v e1 e2=>?_⟩
 .obtain⟨⟨v,hv⟩,sW⟩:=L.s n c e;exact⟨⟨v,IsCell.I (kl c (.inr ⟨n,e⟩)) hv⟩,sW⟩
 .obtain⟨u,hh,hu⟩:=hv n i v e1 e2;exact⟨u,hh.bb' λn c e=>kl c (.inr ⟨n,e⟩),hu.ab' x⟩
theorem fk.e'(L:fk sl env p loc){n:Str}{v:MV}(ek:mC env)(hs:sl.lookup n=some i)(hl:loc[i]?=some (some v))(h:∀u,VM p v u->Q u p.s):wpAny M A (loadName env n) Q E p.s:=by
 obtain⟨m,hm,hv⟩:=L.F;obtain⟨u,hh,hu⟩:=hv n i v hs hl;rcases hh with⟨k,q⟩|⟨k,c,q1,q2⟩
 .exact wpAny_loadName_local ek.a k hm q (h u hu)
 .exact wpAny_loadName_cell ek.a k q1 q2 (h u hu)
theorem Uj{o:Option (S7)}{f:MV->Prop}(h:lk o f)(k:∀v,o=some (some v)->f v->G):G:=by
 induction o with
 |none=>exact h.elim
 |some o=>induction o with
  |none=>exact h.elim
  |some v=>exact k v rfl h
theorem EB{n n':Str}(hn:(sl.map (·.2)).Nodup)(h:sl.lookup n=some i)(h':sl.lookup n'=some i):n=n':=by
 have a:=mem_of_lookup h;have b:=mem_of_lookup h';clear h h'
 induction sl with
 |nil=>cases a
 |cons x r ih=>
  rw[dD,cD]at hn
  rcases aF.mp a with e|a'<;>rcases aF.mp b with e'|b'
  .exact congrArg Prod.fst (e.trans e'.symm)
  .exact absurd (show x.2∈List.map (·.2) r from e▸bF.mpr ⟨(n',i),b',rfl⟩) hn.1
  .exact absurd (show x.2∈List.map (·.2) r from e'▸bF.mpr ⟨(n,i),a',rfl⟩) hn.1
  .exact ih hn.2 a' b'
noncomputable def Pt.i'(p:Pt C)(h':Heap)(tk:Nat)(d:Addr)(hd:p.W.d d=some (.d d,false))(hs:Heap.SameBut d p.I h')(ld:eE h' d):Pt C:=
 ⟨p.W,{p.s with heap:=h',toks:=tk},p.m,by
  have K:g9 p.W p.I p.W h':=⟨λa o y=>⟨y.1,(hs.2 a λq=>by rw[q,qe,hd]at y;exact sn y.1).trans y.2⟩,λJ J x=>x,λJ J x=>⟨x,rfl⟩⟩
  refine p.r.O K (λJ J J x=>x) p.r.f (λa k e=>?_) p.r.g λa Q w e=>?_
  .by_cases q:a=d
   .exact q▸ld
   .unfold eE;rw[hs.2 a q];exact p.r.d a k e
  .by_cases q:Q=.d d
   .exact .inr ⟨.d,q▸rfl,λJ=>trivial⟩
   .exact .inl ⟨e,λb y z=>⟨z,hs.2 b λw=>q (by rw[w,hd]at z;exact(congrArg Prod.fst (aq z)).symm)⟩,nq⟩⟩
theorem Pt.n'(p:Pt C)(h':Heap)(tk:Nat)(d:Addr)(hd hs ld)(dd:D d):eY D B p (p.i' h' tk d hd hs ld):=
 ⟨rfl,λa o y=>⟨y.1,(hs.2 a λq=>by rw[q,qe,hd]at y;exact sn y.1).trans y.2⟩,λa k e=>.inl e,λa t e n=>hs.2 a λq=>n (q▸dd),λJ J J J=>rfl,λJ x=>.inl x,rfl,λa J l=>by
  by_cases q:a=d
  .exact q▸ld
  .exact(show(h'.get? a).isSome=true from(hs.2 a q).symm▸l)⟩
theorem U5{v w:MV}(h:(loc.set i (some v))[j]?=some (some w)):(j=i/\w=v)\/(j≠i/\loc[j]?=some (some w)):=by
 by_cases q:i=j
 .subst q;rw[List.getElem?_set]at h
  rw[if_pos rfl]at h
  by_cases z:i<loc.length
  .rw[if_pos z]at h;exact .inl ⟨rfl,(aq (aq h)).symm⟩
  .rw[if_neg z]at h;exact nn h
 .rw[bG q]at h;exact .inr ⟨λe=>q e.symm,h⟩
theorem fk.c'(L:fk sl env p loc){n:Str}{v:MV}{u:Value}(nd:(sl.map (·.2)).Nodup)(hs:sl.lookup n=some i)(E:eY D nj p q)(eW:q.W=p.W){m':Str->V9}(oth:∀n',n'≠n->∀m u,p.I.Ns env.locals m->Holds env p.I m n' u->Holds env q.I m' n' u)(hn:Holds env q.I m' n u)(YU:q.I.Ns env.locals m')(hc:∀n c,env.cells.lookup n=some c->∃v,q.I.IsCell c v)(x:VM p v u):fk sl env q (loc.set i (some v)):=by
 obtain⟨m,hm,hv⟩:=L.F;refine⟨λa f=>eW▸L.r a f,λn c e=>⟨hc n c e,(L.s n c e).2⟩,L.G,m',YU,λn' j w e1 e2=>?_⟩
 rcases U5 e2 with⟨a,b⟩|⟨a,b⟩
 .have e:n'=n:=EB nd (a▸e1) hs;exact⟨u,e▸hn,b▸x.ab' E⟩
 .obtain⟨u',hh,hu⟩:=hv n' j w e1 b;exact⟨u',oth n' (λz=>a (by rw[z,hs]at e1;exact(aq e1).symm)) m u' hm hh,hu.ab' E⟩
def kV(sl:WE)(env:Env)(D:Addr->Prop)(p:Pt C)(loc:dj)(Q:Unit->Shared->Prop):Prop:=∀q:Pt C,eY D nj p q->q.m=p.m->fk sl env q loc->Q () q.s
theorem JX{m m2:Str->V9}(x:h.Ns a m)(y:h.Ns a m2)(n:Str):m n=m2 n:=by
 obtain⟨o,es,ep,g,d,J,f⟩:=x;obtain⟨o2,es2,ep2,g2,d2,J,f2⟩:=y;obtain rfl:=aq (g.symm.trans g2)
 cases d.symm.trans d2
 exact(f n).symm.trans (f2 n)
theorem p5{n:Str}{v:MV}{Q:Unit->Shared->Prop}(ek:mC env)(L:fk sl env p loc)(nd:(sl.map (·.2)).Nodup)(hs:sl.lookup n=some i)(hk:env.kindOf n=some .local\/env.kindOf n=some .cell)(d0:env.kindOf n=some .local->D env.locals)(d1:∀c,env.kindOf n=some .cell->env.cells.lookup n=some c->D c)(x:VM p v u)(K:kV sl env D p (loc.set i (some v)) Q):wpAny C.I A (storeName env n u) Q E p.s:=by
 obtain⟨m,hm,J⟩:=L.F;rcases hk with hk|hk
 .refine wpAny_storeName_local hk hm (λh' YU Ac=>?_) (by rw[ek.a];rfl)
  obtain⟨o,J,J,ho,J⟩:=id YU;refine K (p.i' h' _ env.locals (L.r _ (.inl rfl)) Ac (bS ho)) (p.n' _ _ _ _ _ _ (d0 hk)) rfl (L.c' nd hs (p.n' (D:=D) _ _ _ _ _ _ (d0 hk)) rfl (λn' q m2 u' Of hh=>?_) (.inl ⟨hk,if_pos rfl⟩) YU (λn' c e=>?_) x)
  .rcases hh with⟨k,z⟩|⟨k,c,z1,z2⟩
   .exact .inl ⟨k,(if_neg q).trans ((JX hm Of n').trans z)⟩
   .exact .inr ⟨k,c,z1,IsCell.I (Ac.2 c (L.s n' c z1).2) z2⟩
  .obtain⟨⟨v,hv⟩,sW⟩:=L.s n' c e;exact⟨v,IsCell.I (Ac.2 c sW) hv⟩
 .obtain⟨c,hc⟩:=bz.mp (ek.b n hk);obtain⟨⟨v0,hv0⟩,sW⟩:=L.s n c hc;refine wpAny_storeName_cell ek.a hk hc hv0 λh' Xv Ac=>?_
  obtain⟨oc,hoc,J⟩:=id Xv;refine K (p.i' h' p.s.toks c (L.r _ (.inr ⟨n,hc⟩)) Ac (bS hoc)) (p.n' _ _ _ _ _ _ (d1 c hk hc)) rfl (L.c' (m':=m) nd hs (p.n' (D:=D) _ _ _ _ _ _ (d1 c hk hc)) rfl (λn' q m2 u' Of hh=>?_) (.inr ⟨hk,c,hc,Xv⟩) (hm.sameBut Ac (gE sW)) (λn' c' e=>?_) x)
  .rcases hh with⟨k,z⟩|⟨k,c',z1,z2⟩
   .exact .inl ⟨k,(JX hm Of n').trans z⟩
   .exact .inr ⟨k,c',z1,IsCell.I (Ac.2 c' λw=>q (name_of_addr L.G (mem_of_lookup z1) (mem_of_lookup (w▸hc)))) z2⟩
  .by_cases z:c'=c
   .exact⟨_,z▸Xv⟩
   .obtain⟨⟨v,hv⟩,J⟩:=L.s n' c' e;exact⟨v,IsCell.I (Ac.2 c' z) hv⟩

def ly{C:dX}(p:Pt C)(vs:WC):S9->Prop:=List.rec (motive:=λJ=>S9->Prop) TZ (λv J y=>qE (VM p v) y) vs
theorem ly.bh'(x:eY D nj p q){vs:WC}:∀{us:S9},ly p vs us->ly q vs us:=by
 induction vs with
 |nil=>exactλy=>y
 |cons v vs ih=>exactλy=>qE.U' (λu z=>z.ab' x) (λus z=>ih z) y
theorem ly.bc'{v:MV}{vs:WC}(x:VM p v u)(y:ly p vs us):ly p (v::vs) (u::us):=⟨u,us,rfl,x,y⟩
structure Jd where
 c:Nat->Str
 d:Nat->Str
 e:Nat->Str
 a:Nat->Str
 b:Nat->Bool
structure Ff(C:dX)(N:Jd):Prop where
 i:C.b.Ns mainGlobals C.f
 w:C.b.Ns builtinsNs C.g
 h:eE C.b sysModules
 B:N.c=C.n
 E:N.d=C.o
 z:N.e=C.l
 g:N.a=C.c
 b:tK C
 y:∀k v,IJ k=some v->∃u,C.f (C.l k)=some u/\VR C W0 C.b v u
 a:∀c k,gX c=some k->lE C c k
 F:∀c k,gX c=some k->C.f (C.o c)=some (.ref (C.a c))
 m:∀f,N.b f=true->C.f (C.n f)=some (.ref (C.e f))
 A:∀f mf,jL[f]?=some mf->∃o fd,C.b.get? (C.e f)=some o/\o.data=.func fd
 q:∃items,C.b.IsList C.j items/\IntsAre items.toList C.k/\items.size<=1000
 D:(C.i==sysModules)=false/\∃f:Int->V9,C.b.MapOf (intKind C.d C.w) C.i f/\∀(k:Int)(d:PV)(G:PV->Prop),sU (.d k) d G->(G d/\f k=none)\/∃j t,G (.d j)/\f k=some (.int j t)
 e:C.c 10="append"/\C.c 37="pop"/\C.c 21="get"
 x:C.f "len"=none/\C.g "len"=some (.builtin "len")
 p:C.f "sorted"=none/\C.g "sorted"=some (.builtin "sorted")
 l:C.f "tuple"=none/\C.g "tuple"=some (.type "tuple")
 n:C.f "str"=none/\C.g "str"=some (.type "str")
 s:C.f "range"=none/\C.g "range"=some (.type "range")
 r:C.f "reversed"=none/\C.g "reversed"=some (.type "reversed")
theorem Pt.e'(p:Pt C):∀b o,C.b.get? b=some o->p.I.get? b=some o:=λb o e=>(p.r.i b o e).2
theorem MP(x:VR C W0 C.b v u):VR C p.W p.I v u:=VR.u' ⟨λa o e=>p.r.i a o e.2,λJ J e=>(nomatch (e:(none:aaa)=some _)),λJ J e=>(nomatch (e:(none:aaa)=some _))⟩ v u x
def nG(C:dX)(cl:CL)(n:Nat):Prop:=∀{A:Around}{p:Pt C}{f:Nat}{vs:WC}{us:S9}{k:KP}{Q:Result->Shared->Prop},mT A (2*n+1)->ly p vs us->cl f vs p.m k->rW p k (λu s=>Q (.ok (.ret u)) s)->codeAny C.I A (.call (.ref (C.e f)) ⟨us,[]⟩) Q p.s

variable{N:Jd}
section
abbrev Nm:=aad
abbrev Sl:=WE
noncomputable def X5(x:S5):S5->Bool:=List.rec (motive:=λJ=>S5->Bool) (λy=>y.isEmpty) (λa J ih y=>List.casesOn (motive:=λJ=>Bool) y false λb r=>Nat.beq a b&&ih r) x
theorem LF{x:S5}:∀{y:S5},X5 x y=true↔x=y:=by
 induction x with
 |nil=>intro y;induction y using aQ with
  |nil=>exact⟨λJ=>rfl,λJ=>rfl⟩
  |cons=>exact⟨λh=>Bool.noConfusion h,λh=>nomatch h⟩
 |cons a x ih=>intro y;induction y using aQ with
  |nil=>exact⟨λh=>Bool.noConfusion h,λh=>nomatch h⟩
  |cons b y=>
   refine⟨λh=>?_,λh=>?_⟩
   .obtain⟨h1,h2⟩:=ak.mp h;rw[bM h1,ih.mp h2]
   .obtain⟨h1,h2⟩:=fF h;exact ak.mpr ⟨h1▸pH a,ih.mpr h2⟩
def gP(a b:Str):Bool:=X5 a.cps.toList b.cps.toList
theorem dW{a b:Str}:gP a b=true↔a=b:=LF.trans ⟨λh=>congrArg Str.mk (Array.toList_inj.mp h),λh=>h▸rfl⟩
def YH{α:Type}(n:Str)(l:List (Str×α)):Option α:=List.rec none (λe J ih=>Bool.rec ih (some e.2) (gP n e.1)) l
theorem J3{α:Type}(n:Str)(l:List (Str×α)):YH n l=l.lookup n:=by
 induction l with
 |nil=>rfl
 |cons e l ih=>
  show Bool.rec (YH n l) (some e.2) (gP n e.1)=(match n==e.1 with|true=>some e.2|false=>l.lookup n)
  induction h:gP n e.1 with
  |true=>rw[beq_iff_eq.mpr (dW.mp h)]
  |false=>rw[beq_eq_false_iff_ne.mpr λz=>aO (h.symm.trans (dW.mpr z))];exact ih
abbrev Ed(n:Str)(l:WE):aap:=YH n l
abbrev jO(n:Str)(l:aad):aaq:=YH n l
theorem zj(n:Str)(sl:WE):Ed n sl=sl.lookup n:=J3 n sl
theorem kh(n:Str)(sl:aad):jO n sl=sl.lookup n:=J3 n sl
def fQ(names:aad)(n:Str):Bool:=jO n names==some .globalImplicit
def vH(names:aad)(n:Str):Bool:=jO n names==some .local||jO n names==some .cell
def iy(n:Str):Bool:= !gP n "__debug__"
noncomputable def yW:BI->Str
 |.a=>"len"|.d=>"sorted"|.b=>"tuple"|.c=>"str"
noncomputable def CU{α:Type}(eq:α->α->Bool)(l:List α):Bool:=List.rec true (λx r ih=> !r.any (eq x)&&ih) l
theorem wA{α:Type}{eq:α->α->Bool}(he:∀a,eq a a=true){l:List α}(h:CU eq l=true):l.Nodup:=by
 induction l with
 |nil=>exact qi
 |cons x r ih=>
  obtain⟨h1,h2⟩:=ak.mp h;refine cD.mpr ⟨λhm=>?_,ih h2⟩
  rw[cI.mpr ⟨x,hm,he x⟩]at h1
  exact ft h1
abbrev vC(l:aab):Bool:=CU gP l
abbrev yK(l:S5):Bool:=CU Nat.beq l
theorem qQ{l:aab}(h:vC l=true):l.Nodup:=wA (λa=>dW.mpr rfl) h
theorem wz{l:S5}(h:yK l=true):l.Nodup:=wA pH h
def fH(fz names:aad):aad:=names.map λ(n,k)=>if(k== .free&&jO n fz==some .cell)then(n,.cell)else(n,k)
def fq(tgt:WE)(fz names:aad)(sl:WE):WE:=tgt++sl.filter λp=>jO p.1 (fH fz names)==some .cell
def nR(fz:aad)(scope:Scope)(tgt:WE)(sl:WE):Bool:=
 scope.kind== .function&&
 (scope.names.all (λp=>(p.2== .local&&jO p.1 scope.names==some .local)||(p.2== .free&&jO p.1 fz==some .cell)||p.2== .globalImplicit)&&
 (vC (scope.names.map (·.1))&&(tgt.all (λp=>jO p.1 (fH fz scope.names)==some .local&&Ed p.1 (fq tgt fz scope.names sl)==some p.2)&&yK ((fq tgt fz scope.names sl).map (·.2)))))
inductive Ck(p:Prop)where
 |d
 |e (h:p)
noncomputable def Ck.V{p:Prop}:Ck p->Bool
 |.d=>false
 |.e _=>true
theorem Ck.of{p:Prop}: {c:Ck p}->c.V=true->p
 |.e h,_=>h
noncomputable def Ck.J{p q:Prop}(c:Ck p)(k:p->Ck q):Ck q:=match c with
 |.d=>.d
 |.e h=>k h
noncomputable def Ck.I{q:Prop}(b:Bool)(k:b=true->Ck q):Ck q:=match b,k with
 |true,k=>k rfl
 |false,_=>.d
noncomputable def Ck.O{α:Type}{q:Prop}(o:Option α)(k:∀a,o=some a->Ck q):Ck q:=match o,k with
 |some a,k=>k a rfl
 |none,_=>.d
section
variable{M:Model}{A:Around}{E:Value->Shared->Prop}{s:Shared}{env:Env}
theorem M5{x y:Expr}{r:WB}{pos:Pos}{Q:Value->Shared->Prop}
  (h:wpAny M A (eval x env) (λv cu=>wpAny M A (truthy v) (λt ju=>if t then wpAny M A (eval (match r with|[]=>y|r=>.BoolOp .And (y::r) pos) env) Q E ju else Q v ju) E cu) E s):
  wpAny M A (eval (.BoolOp .And (x::y::r) pos) env) Q E s:=by
 rw[arm_eval_BoolOp,arm_evalEach_cons,arm_evalEach_cons];show wpAny M A (do let v<-eval x env;standAt pos;let t<-holding [v] (truthy v);match BoolOp.And,t with|.And,false|.Or,true=>pure v|_,_=>boolOp pos .And (eval y env::evalEach r env)) Q E s
 refine wpAny_bind (wpAny_mono h (λv cu jE=>wpAny_bind (wpAny_standAt (wpAny_bind (wpAny_holding (wpAny_mono jE (λt ju nY=>?_) λJ J e=>e))))) λJ J e=>e)
 induction t
 .exact wpAny_pure nY
 .induction r using aQ<;>exact nY
theorem RU{x y:Expr}{r:WB}{pos:Pos}{Q:Value->Shared->Prop}
  (h:wpAny M A (eval x env) (λv cu=>wpAny M A (truthy v) (λt ju=>if t then Q v ju else wpAny M A (eval (match r with|[]=>y|r=>.BoolOp .Or (y::r) pos) env) Q E ju) E cu) E s):
  wpAny M A (eval (.BoolOp .Or (x::y::r) pos) env) Q E s:=by
 rw[arm_eval_BoolOp,arm_evalEach_cons,arm_evalEach_cons];show wpAny M A (do let v<-eval x env;standAt pos;let t<-holding [v] (truthy v);match BoolOp.Or,t with|.And,false|.Or,true=>pure v|_,_=>boolOp pos .Or (eval y env::evalEach r env)) Q E s
 refine wpAny_bind (wpAny_mono h (λv cu jE=>wpAny_bind (wpAny_standAt (wpAny_bind (wpAny_holding (wpAny_mono jE (λt ju nY=>?_) λJ J e=>e))))) λJ J e=>e)
 induction t
 .induction r using aQ<;>exact nY
 .exact wpAny_pure nY
theorem M4{x y:Expr}{r:WB}{pos:Pos}{qD:Sem Value}{Q:Bool->Shared->Prop}
  (h:wpAny M A (isTrue x env (eval x env)) (λb cu=>if b then wpAny M A (isTrue (match r with|[]=>y|r=>.BoolOp .And (y::r) pos) env (eval (match r with|[]=>y|r=>.BoolOp .And (y::r) pos) env)) Q E cu else Q false cu) E s):
  wpAny M A (isTrue (.BoolOp .And (x::y::r) pos) env qD) Q E s:=by
 refine wpAny_isTrue_BoolOp (wpAny_allTrue_And_cons (wpAny_mono h (λb cu jE=>?_) λJ J e=>e))
 induction b
 .exact jE
 .induction r using aQ with
  |nil=>
   refine wpAny_allTrue_And_cons (wpAny_mono jE (λb ju nY=>?_) λJ J e=>e)
   induction b
   .exact nY
   .exact wpAny_allTrue_And_nil nY
  |cons z r=>exact jE
theorem RT{x y:Expr}{r:WB}{pos:Pos}{qD:Sem Value}{Q:Bool->Shared->Prop}
  (h:wpAny M A (isTrue x env (eval x env)) (λb cu=>if b then Q true cu else wpAny M A (isTrue (match r with|[]=>y|r=>.BoolOp .Or (y::r) pos) env (eval (match r with|[]=>y|r=>.BoolOp .Or (y::r) pos) env)) Q E cu) E s):
  wpAny M A (isTrue (.BoolOp .Or (x::y::r) pos) env qD) Q E s:=by
 refine wpAny_isTrue_BoolOp (wpAny_allTrue_Or_cons (wpAny_mono h (λb cu jE=>?_) λJ J e=>e))
 induction b
 .induction r using aQ with
  |nil=>
   refine wpAny_allTrue_Or_cons (wpAny_mono jE (λb ju nY=>?_) λJ J e=>e)
   induction b
   .exact wpAny_allTrue_Or_nil nY
   .exact nY
  |cons z r=>exact jE
 .exact jE
end
theorem Q0{nms:aad}{x:Str}(h:fQ nms x=true):nms.lookup x=some .globalImplicit:=(kh x nms).symm.trans (eq_of_beq h)
theorem Dl{x:Str}(h:iy x=true):(x==("__debug__":Str))=false:=beq_eq_false_iff_ne.mpr λe=>by have:(!gP x "__debug__")=true:=h;rw[dW.mpr e]at this;exact ft this
end

section
structure Kt where
 C:dX
 N:Jd
 a:CL
 n:Nat
structure Hy(K:Kt):Prop where
 B:Ff K.C K.N
 a:nG K.C K.a K.n
 b:∀f vs s k,K.a f vs s k->∃mf,jL[f]?=some mf
structure FP(K:Kt)(nms:Nm)(sl:Sl)where
 p:Pt K.C
 a:Env
 A:Around
 b:dj
 g:mC a
 l:a.scope.names=nms
 n:(sl.map (·.2)).Nodup
 i:mT A (2*K.n+2)
 L:fk sl a p b
variable{K:Kt}{nms:Nm}{sl:Sl}
noncomputable def FP.I(x:FP K nms sl)(q:Pt K.C)(e:Ex x.p q):FP K nms sl:= {x with p:=q,L:=x.L.I e λJ J f=>f}
abbrev FP.O(x:FP K nms sl){α:Type}(m:Sem α)(Q:α->Shared->Prop)(E:Value->Shared->Prop):Prop:=wpAny K.C.I x.A m Q E x.p.s
def KTf{C:dX}(p:Pt C)(k:MV->Bool->St->Prop)(Q:Bool->Shared->Prop):Prop:=∀(q:Pt C) v b,Ex p q->dB q.m v=some b->k v b q.m->Q b q.s
variable (K nms sl)
structure kz(pe:Expr):Prop where
 a:∀r env,starEach (pe::r) env=(false,eval pe env)::starEach r env
 c:∀o i,subscripted pe false o i=operate [o,i] (getItem o i)
 b:∀env x,foldedSetIterable pe env x=pure x
noncomputable def nS:Expr->Bool
 |.Call .. =>false
 |_=>true
noncomputable def kT:Expr->Bool
 |.ListComp .. =>false
 |_=>true
structure SE(e:ME)(pe:Expr):Prop where
 a:∀{k:MV->St->Prop}{Q:Value->Shared->Prop}{E:Value->Shared->Prop}(x:FP K nms sl),aE K.a e x.b x.p.m k->mF x.p k Q->x.O (eval pe x.a) Q E
structure SR(e:ME)(pe:Expr):Prop where
 a:∀{k:MV->St->Prop}{Q:Value->Shared->Prop}{E:Value->Shared->Prop}(x:FP K nms sl),aE K.a e x.b x.p.m k->rW x.p (λv s=>k (.a v) s) Q->w6 x.p k Q->x.O (eval pe x.a) Q E
structure ST(e:ME)(pe:Expr):Prop where
 a:∀{k:MV->Bool->St->Prop}{Q:Bool->Shared->Prop}{E:Value->Shared->Prop}(x:FP K nms sl),aE K.a e x.b x.p.m (λv s=>ob (dB s v) λb=>k v b s)->KTf x.p k Q->x.O (PySem.isTrue pe x.a (eval pe x.a)) Q E
structure TE(e:ME)(pe:Expr):Prop where
 v:SE K nms sl e pe
 t:ST K nms sl e pe
 o:kz pe
 b:nS pe=true->∀n env,attributeBase pe n env (eval pe env)=eval pe env
 s:kT pe=true->∀t ln env,swapsWith pe t ln env=pure false
structure TR(e:ME)(pe:Expr):Prop where
 r:SR K nms sl e pe
 h:∀env qD,PySem.isTrue pe env qD=(do let v<-qD;standAt pe.pos;holding [v] (truthy v))
 o:kz pe
 b:nS pe=true->∀n env,attributeBase pe n env (eval pe env)=eval pe env
 s:kT pe=true->∀t ln env,swapsWith pe t ln env=pure false
structure x8(es:AZ)(g6:WB):Prop where
 b:∀env,starEach g6 env=g6.map λe=>(false,eval e env)
 a:∀{pos:Pos}{k:WC->St->Prop}{Q:S9->Shared->Prop}{E:Value->Shared->Prop}(x:FP K nms sl),aN K.a es x.b x.p.m k->(∀q vs us,Ex x.p q->ly q vs us->k vs q.m->Q us q.s)->x.O (spliced (backTo pos (starEach g6 x.a))) Q E
variable{K nms sl}
variable{e l r:ME}{pe l' r':Expr}{pos:Pos}{kk:Nat}
theorem SE.I(x:SE K nms sl e pe)(h:∀env qD,PySem.isTrue pe env qD=(do let v<-qD;standAt pe.pos;holding [v] (truthy v)))(o:kz pe)(b:nS pe=true->∀n env,attributeBase pe n env (eval pe env)=eval pe env)(s:kT pe=true->∀t ln env,swapsWith pe t ln env=pure false):TE K nms sl e pe:=⟨x,⟨λX he K=>wpAny_isTrue_value (x.a X he λq v u E V hk=>dh hk λb e hk=>j4 V e λt=>K (q.tk t) v b (E.I (q.O t)) e hk) (h _ _)⟩,o,b,s⟩
theorem TR.I(x:TR K nms sl e pe):TE K nms sl e pe:=SE.I ⟨λX he K=>x.r.a X he K.pv K.aC'⟩ x.h x.o x.b x.s
theorem KI(x:TR K nms sl e pe):TE K nms sl (.m false e) pe:=SE.I ⟨λX he K=>x.r.a X he (λq v u E V hk=>K q (.a v) u E V hk) K.aH'⟩ x.h x.o x.b x.s
theorem RD(x:TR K nms sl e pe):TE K nms sl (.E e) pe:=SE.I ⟨λX he K=>x.r.a X he (λq v u E V hk=>hk.elim) K.aD'⟩ x.h x.o x.b x.s
theorem RE:TE K nms sl (.n .h) (.Constant .none kk pos):=SE.I ⟨λX he K=>wpAny_Constant_none (K X.p (.a .h) _ (.c' _) rfl he)⟩ (λJ J=>rfl) ⟨λJ J=>rfl,λJ J=>rfl,λJ J=>rfl⟩ (λJ J J=>rfl) λJ J J J=>rfl
theorem RL(b:Bool):TE K nms sl (.n (.g b)) (.Constant (.bool b) kk pos):=SE.I ⟨λX he K=>wpAny_Constant_bool (K X.p (.a (.g b)) _ (.c' _) rfl he)⟩ (λJ J=>rfl) ⟨λJ J=>rfl,λJ J=>rfl,λJ J=>rfl⟩ (λJ J J=>rfl) λJ J J J=>rfl
theorem WV(i:Int):TE K nms sl (.n (.d i)) (.Constant (.int i) kk pos):=SE.I ⟨λX he K=>wpAny_Constant_int (K.pv.aJ' (v:=.d i) he _ ⟨_,rfl⟩)⟩ (λJ J=>rfl) ⟨λJ J=>rfl,λJ J=>rfl,λJ J=>rfl⟩ (λJ J J=>rfl) λJ J J J=>rfl
theorem WO(i:Str):TE K nms sl (.n (.k i)) (.Constant (.str i) kk pos):=SE.I ⟨λX he K=>wpAny_Constant_str (K.pv.aJ' (v:=.k i) he _ ⟨_,rfl⟩)⟩ (λJ J=>rfl) ⟨λJ J=>rfl,λJ J=>rfl,λJ J=>rfl⟩ (λJ J J=>rfl) λJ J J J=>rfl
theorem WT{i:Nat}{x:Str}(h1:sl.lookup x=some i)(h2:(x==("__debug__":Str))=false):TE K nms sl (.y i) (.Name x pos):=SE.I ⟨λX he K=>Uj he λv hl he=>wpAny_Name (X.L.e' X.g h1 hl λu V=>K X.p v u (.c' _) V he) h2⟩ (λJ J=>rfl) ⟨λJ J=>rfl,λJ J=>rfl,λJ J=>rfl⟩ (λJ J J=>rfl) λJ J J J=>rfl
theorem FP.g'(X:FP K nms sl){x:Str}(h:fQ nms x=true):X.a.kindOf x=some .globalImplicit:=by unfold Env.kindOf;rw[X.l];exact Q0 h
theorem FP.e'(X:FP K nms sl)(H:Hy K){x:Str}{u:Value}{Q E:Value->Shared->Prop}(h2:fQ nms x=true)(h3:iy x=true)(hv:K.C.f x=some u)(h:Q u X.p.s):X.O (eval (.Name x pos) X.a) Q E:=Calls.Name_function_global X.g.a (X.g' h2) (Calls.loadGlobal_global (env:=X.a) (by rw[X.g.c];exact H.B.i.keeps X.p.e') hv h) (Dl h3)
theorem FP.f'(X:FP K nms sl)(H:Hy K){x:Str}{u:Value}{Q E:Value->Shared->Prop}(h2:fQ nms x=true)(h3:iy x=true)(hv:K.C.f x=none/\K.C.g x=some u)(h:Q u X.p.s):X.O (eval (.Name x pos) X.a) Q E:=Calls.Name_function_global X.g.a (X.g' h2) (Calls.loadGlobal_builtin (env:=X.a) (by rw[X.g.c];exact H.B.i.keeps X.p.e') hv.1 (by rw[X.g.d];exact H.B.w.keeps X.p.e') hv.2 h) (Dl h3)
theorem RJ(H:Hy K){k:Nat}{x:Str}(h1:gP x (K.N.e k)=true)(h2:fQ nms x=true)(h3:iy x=true):TE K nms sl (.d k) (.Name x pos):=SE.I ⟨λX he K'=>dh he λv q he=>by obtain⟨u,m1,v1⟩:=H.B.y k v q;exact X.e' H h2 h3 (by rw[dW.mp h1,H.B.z];exact m1) (K' X.p (.a v) u (.c' _) (MP v1) he)⟩ (λJ J=>rfl) ⟨λJ J=>rfl,λJ J=>rfl,λJ J=>rfl⟩ (λJ J J=>rfl) λJ J J J=>rfl
theorem WK{op:vn}(x:TE K nms sl l l')(y:TE K nms sl r r'):TR K nms sl (.x op l r) (.BinOp l' (xg op) r' pos):=⟨⟨λX he P F=>wpAny_BinOp (x.v.a X he λq v u E V hk=>y.v.a (X.I q E) hk λq2 v2 u2 E2 V2 hk=>GX (V.ab' E2) V2 hk (λr v u E3=>P r v u (E.I (E2.I E3))) (F.ay' (E.I E2)))⟩,λJ J=>rfl,⟨λJ J=>rfl,λJ J=>rfl,λJ J=>rfl⟩,λJ J J=>rfl,λJ J J J=>rfl⟩
theorem WQ(x:TE K nms sl e pe):TE K nms sl (.F e) (.UnaryOp .Not pe pos):=⟨⟨λX he K=>wpAny_UnaryOp (x.v.a X he λq v u E V hk=>dh hk λb e hk=>PySem.not_value (j4 V e λt=>K (q.tk t) (.a (.g (!b))) _ (E.I (q.O t)) rfl hk))⟩,
 ⟨@λk Q E X he K=>wpAny_isTrue_Not (x.t.a X (k:=λv b s=>k (.a (.g (!b))) (!b) s) he λq v b E e hk=>K q (.a (.g (!b))) (!b) E rfl hk)⟩,⟨λJ J=>rfl,λJ J=>rfl,λJ J=>rfl⟩,λJ J J=>rfl,λJ J J J=>rfl⟩
theorem WS(x:TE K nms sl e pe):TE K nms sl (.G e) (.UnaryOp .USub pe pos):=SE.I ⟨λX he K=>wpAny_UnaryOp (x.v.a X he λq v u E V hk=>iS hk λv e1 hk=>pB hk λi e2 hk=>by subst e1 e2;obtain⟨t,et⟩:=V;subst et;exact PySem.P.neg_int ((K.aB' E).pv.aJ' hk _ ⟨_,rfl⟩))⟩ (λJ J=>rfl) ⟨λJ J=>rfl,λJ J=>rfl,λJ J=>rfl⟩ (λJ J J=>rfl) λJ J J J=>rfl
variable{a b t:ME}{a' b' t':Expr}{bs:WB}
noncomputable abbrev Yq(y:Expr)(r:WB)(pos:Pos):Expr:=match r with|[]=>y|r=>.BoolOp .And (y::r) pos
noncomputable abbrev Xt(y:Expr)(r:WB)(pos:Pos):Expr:=match r with|[]=>y|r=>.BoolOp .Or (y::r) pos
theorem mF.aI'{p q:Pt K.C}{k:MV->St->Prop}{Q:Value->Shared->Prop}(x:mF p k Q)(e:Ex p q)(b:Bool)(h:k (.a (.g b)) q.m):Q (.bool b) q.s:=x q (.a (.g b)) _ e rfl h
theorem XQ{o:V8}{x y G:Prop}(h:tb o x y)(k1:o=some false->x->G)(k2:o=some true->y->G):G:=by
 induction o with
 |none=>exact h.elim
 |some b=>induction b with
  |false=>exact k1 rfl h
  |true=>exact k2 rfl h
def B9(x y:Prop)(b:Bool):Prop:=Bool.rec (motive:=λJ=>Prop) x y b
theorem XZ{o:V8}{b:Bool}{f:Bool->Prop}(e:o=some b)(h:ob o f):f b:=by rw[e]at h;exact h
theorem WX(x:TE K nms sl a a')(y:TE K nms sl b (Yq b' bs pos)):TE K nms sl (.z a b) (.BoolOp .And (a'::b'::bs) pos):=⟨⟨@λk Q E X he KK=>M5 (x.v.a X he λq v u E1 V hk=>XQ hk (λe hk=>j4 V e λt=>KK (q.tk t) v u (E1.I (q.O t)) (V.ab' (q.O (D:=Ah) t)) hk)
  λe hk=>j4 V e λt=>y.v.a (X.I (q.tk t) (E1.I (q.O t))) hk (KK.aB' (E1.I (q.O t))))⟩,
 ⟨@λk Q E X he KK=>M4 (x.t.a X (k:=λv c s=>B9 (ob (dB s v) λb=>k v b s) (aE K.a b X.b s λv s=>ob (dB s v) λb=>k v b s) c) he λq v c E1 e hk=>by
  induction c with
  |false=>exact KK q v false E1 e (XZ e hk)
  |true=>exact y.t.a (X.I q E1) hk λr v b E2=>KK r v b (E1.I E2))⟩,⟨λJ J=>rfl,λJ J=>rfl,λJ J=>rfl⟩,λJ J J=>rfl,λJ J J J=>rfl⟩
theorem cw(x:TE K nms sl a a')(y:TE K nms sl b (Xt b' bs pos)):TE K nms sl (.A a b) (.BoolOp .Or (a'::b'::bs) pos):=⟨⟨@λk Q E X he KK=>RU (x.v.a X he λq v u E1 V hk=>XQ hk (λe hk=>j4 V e λt=>y.v.a (X.I (q.tk t) (E1.I (q.O t))) hk (KK.aB' (E1.I (q.O t))))
  λe hk=>j4 V e λt=>KK (q.tk t) v u (E1.I (q.O t)) (V.ab' (q.O (D:=Ah) t)) hk)⟩,
 ⟨@λk Q E X he KK=>RT (x.t.a X (k:=λv c s=>B9 (aE K.a b X.b s λv s=>ob (dB s v) λb=>k v b s) (ob (dB s v) λb=>k v b s) c) he λq v c E1 e hk=>by
  induction c with
  |true=>exact KK q v true E1 e (XZ e hk)
  |false=>exact y.t.a (X.I q E1) hk λr v b E2=>KK r v b (E1.I E2))⟩,⟨λJ J=>rfl,λJ J=>rfl,λJ J=>rfl⟩,λJ J J=>rfl,λJ J J J=>rfl⟩
theorem WU(z:TE K nms sl t t')(x:TE K nms sl a a')(y:TE K nms sl b b'):TE K nms sl (.B t a b) (.IfExp t' a' b' pos):=⟨⟨@λk Q E X he KK=>wpAny_IfExp (z.t.a X (k:=λv c s=>B9 (aE K.a b X.b s k) (aE K.a a X.b s k) c) he λq v c E1 e hk=>by
  induction c with
  |true=>exact x.v.a (X.I q E1) hk (KK.aB' E1)
  |false=>exact y.v.a (X.I q E1) hk (KK.aB' E1))⟩,
 ⟨@λk Q E X he KK=>isTrue_IfExp (z.t.a X (k:=λv c s=>B9 (aE K.a b X.b s λv s=>ob (dB s v) λb=>k v b s) (aE K.a a X.b s λv s=>ob (dB s v) λb=>k v b s) c) he λq v c E1 e hk=>by
  induction c with
  |true=>exact x.t.a (X.I q E1) hk λr v b E2=>KK r v b (E1.I E2)
  |false=>exact y.t.a (X.I q E1) hk λr v b E2=>KK r v b (E1.I E2))⟩,⟨λJ J=>rfl,λJ J=>rfl,λJ J=>rfl⟩,λJ J J=>rfl,λJ J J J=>rfl⟩
end

variable{K:Kt}{nms:Nm}{sl:Sl}{l r:ME}{pe l' r':Expr}{kk:Nat}{es:AZ}{g6:WB}
theorem RC:x8 K nms sl .b []:=⟨λJ=>rfl,λX he K=>wpAny_items_nil (K X.p [] [] (.c' _) rfl he)⟩
theorem MU(x:TE K nms sl e pe)(y:x8 K nms sl es g6):x8 K nms sl (.a e es) (pe::g6):=⟨λenv=>(x.o.a g6 env).trans (congrArg _ (y.b env)),λX he K=>wpAny_items_cons (x.v.a X he λq v u E V hk=>y.a (X.I q E) hk λq2 vs us E2 V2 hk=>K q2 (v::vs) (u::us) (E.I E2) (.bc' (V.ab' E2) V2) hk) (x.o.a g6 X.a)⟩
theorem Sg{f:S3->Prop}:∀{vs:WC}{us:S9},ly p vs us->YB vs f->(∀ps,bR C p.W p.I ps us->f ps->G)->G:=λ{vs}=>by
 induction vs generalizing f with
 |nil=>exactλx h k=>k [] x h
 |cons v vs ih=>intro us x h k;obtain⟨u,r,e,a,b⟩:=x;exact iS h λv' e1 h=>ih b h λps y h=>k (v'::ps) (e▸ .I' (show VM p (.a v') u from e1▸a) y) h
theorem Ry(x:x8 K nms sl es g6):TR K nms sl (.u es) (.List g6 pos):=⟨⟨λX he P F=>wpAny_List (x.a X he λq vs us E V hk=>Sg V hk λps y hk=>fj hk λhz hk=>by
  have hz:=of_decide_eq_true hz;rw[y.K']at hz
  exact⟨gM (aA hz (by decide)),(F.ay' E).az' y (aA hz (by decide)) hk⟩)⟩,λJ J=>rfl,⟨λJ J=>rfl,λJ J=>rfl,λJ J=>rfl⟩,λJ J J=>rfl,λJ J J J=>rfl⟩
theorem WM(x:x8 K nms sl es g6):TE K nms sl (.p es) (.Tuple g6 kk pos):=SE.I ⟨λX he K=>wpAny_Tuple (x.a X he λq vs us E V hk=>Sg V hk λps y hk=>fj hk λhz hk=>by
  have hz:=of_decide_eq_true hz;rw[y.K']at hz
  exact⟨gM (aA hz (by decide)),(K.aB' E).pv.aK' y (aA hz (by decide)) hk⟩)⟩ (λJ J=>rfl) ⟨λJ J=>rfl,λJ J=>rfl,λJ J=>rfl⟩ (λJ J J=>rfl) λJ J J J=>rfl
theorem WW(H:Hy K){op:PM}(x:TE K nms sl l l')(y:TE K nms sl r r')(hb:behindInMarks (TM op) r'=false):TE K nms sl (.h op l r) (.Compare l' [TM op] [r'] pos):=
 have go:∀{Q E:Value->Shared->Prop}{k:Bool->St->Prop}(X:FP K nms sl),aE K.a l X.b X.p.m (λa s=>aE K.a r X.b s λb s=>AL op a b s λc=>k c s)->(∀(q:Pt K.C) b tk,Ex X.p q->k b q.m->Q (.bool b) {q.s with toks:=tk})->
   X.O (eval l' X.a) (λu cu=>wpAny K.C.I X.A (eval r' X.a) (λv ju=>wpAny K.C.I X.A (compareOp (TM op) u v) Q E ju) E cu) E:=λX he KK=>
  x.v.a X he λq v u E V hk=>y.v.a (X.I q E) hk λq2 v2 u2 E2 V2 hk=>Qp X.i.I H.B.h (V.ab' E2) V2 hk λb tk hk=>KK q2 b tk (E.I E2) hk
 ⟨⟨λX he KK=>wpAny_Compare1 (go X he λq b tk E hk=>KK (q.tk tk) (.a (.g b)) _ (E.I (q.O tk)) rfl hk) hb⟩,
 ⟨@λk Q E X he KK=>wpAny_isTrue_Compare1 (go X (k:=λc s=>k (.a (.g c)) c s) he λq b tk E hk=>wpAny_truthy_bool (KK (q.tk tk) (.a (.g b)) b (E.I (q.O tk)) rfl hk)) hb⟩,⟨λJ J=>rfl,λJ J=>rfl,λJ J=>rfl⟩,λJ J J=>rfl,λJ J J J=>rfl⟩
theorem VR.A'(x:VR C W h v u):(u==Value.none)=au.I0 (.a v):=by
 have no:∀{a:Addr},u=.ref a->(u==Value.none)=false:=λe=>e▸rfl
 induction v using PV.casesOn with
 |h=>subst x;rfl
 |g b=>subst x;rfl
 |d=>obtain⟨t,rfl⟩:=x;rfl
 |k=>obtain⟨t,rfl⟩:=x;rfl
 |f=>obtain⟨a,J,J,e,J⟩:=x;exact no e
 |j=>obtain⟨a,J,J,e,J⟩:=x;exact no e
 |o=>obtain⟨a,J,J,e,J⟩:=x;exact no e
 |m=>obtain⟨a,J,J,J,e,J⟩:=x;exact no e
 |l=>obtain⟨⟨a,e,J⟩,J⟩:=x;exact no e
 |e=>obtain⟨a,e,J⟩:=x;exact no e
 |p=>obtain⟨J,e⟩:=x;exact no e
 |n=>obtain⟨J,e⟩:=x;exact no e
theorem Gb{wQ:Bool}(hv:(u==Value.none)=I0 (.a v))(h:Q (.bool (I0 (.a v) != wQ)) s):wpAny M A (compareOp (if wQ then .IsNot else .Is) u .none) Q E s:=by
 induction wQ
 .refine PyProof.Rows.is_none_gen ?_;rw[hv];rwa [Bool.bne_false]at h
 .refine PyProof.Rows.isnot_none_gen ?_;rw[hv];rwa [Bool.bne_true]at h
theorem Iq{wQ:Bool}(x:TE K nms sl e pe):TE K nms sl (.H e wQ) (.Compare pe [if wQ then .IsNot else .Is] [.Constant .none kk p2] pos):=
 ⟨⟨λX he KK=>wpAny_Compare1 (x.v.a X he λq v u E V hk=>iS hk λv' e1 hk=>wpAny_Constant_none (Gb (VR.A' (show VR K.C q.W q.I v' u from(show VM q (.a v') u from e1▸V))) (KK.aI' E _ hk))) (by induction wQ<;>rfl)⟩,
 ⟨@λk Q E X he KK=>wpAny_isTrue_Compare1 (x.v.a X he λq v u E V hk=>iS hk λv' e1 hk=>wpAny_Constant_none (Gb (VR.A' (show VR K.C q.W q.I v' u from(show VM q (.a v') u from e1▸V))) (wpAny_truthy_bool (KK q (.a (.g _)) _ E rfl hk)))) (by induction wQ<;>rfl)⟩,⟨λJ J=>rfl,λJ J=>rfl,λJ J=>rfl⟩,λJ J J=>rfl,λJ J J J=>rfl⟩
theorem Ip{f:Expr}{as:WB}{kw:List Keyword}:TE K nms sl .L (.Call f as kw pos):=⟨⟨λX he=>he.elim⟩,⟨λX he=>he.elim⟩,⟨λJ J=>rfl,λJ J=>rfl,λJ J=>rfl⟩,λh=>Bool.noConfusion h,λJ J J J=>rfl⟩
theorem Io{a:Expr}{ops:List CmpOp}{cs:WB}:TE K nms sl .L (.Compare a ops cs pos):=⟨⟨λX he=>he.elim⟩,⟨λX he=>he.elim⟩,⟨λJ J=>rfl,λJ J=>rfl,λJ J=>rfl⟩,λJ J J=>rfl,λJ J J J=>rfl⟩
theorem RM(H:Hy K){o:ME}{o':Expr}(h1:gP x (K.N.a name)=true)(h2:nS o'=true)(y:TE K nms sl o o'):TE K nms sl (.g o name) (.Attribute o' x pos):=SE.I ⟨λX he KK=>by obtain rfl:=dW.mp h1;rw[arm_eval_Attribute,y.b h2,H.B.g];exact wpAny_bind (y.v.a X he λq v u E V hk=>iS hk λv' e1 hk=>wpAny_bind (wpAny_standAt (wpAny_bind (wpAny_holding (uz H.B.b H.B.a (show VR K.C q.W q.I v' u from(show VM q (.a v') u from e1▸V)) hk λv2 u2 tk V2 hk=>wpAny_bind (wpAny_letTemporaryGo (wpAny_pure ((KK.aB' E).pv.aJ' hk tk V2))))))))⟩ (λJ J=>rfl) ⟨λJ J=>rfl,λJ J=>rfl,λJ J=>rfl⟩ (λJ J J=>rfl) λJ J J J=>rfl
theorem ym{o i:Value}{tg Jm:Expr}{ops:S9}(hI:pQ s o)(hs:subscripted Jm false o i=operate ops (getItem o i))(h:wpAny C.I A (getItem o i) Q E s):
  wpAny C.I A (do let r<-subscripted Jm (<-getitemInPython o) o i;letTemporaryGo tg o r;pure r) Q E s:=by
 obtain⟨T,id,hT,hl⟩:=hI;refine wpAny_bind ?_;rw[getitemInPython_of_ne hT.not_modules];refine wpAny_bind (wpAny_specialOf hT hl ?_);have eF:wpAny C.I A (subscripted Jm false o i) (λr pq=>wpAny C.I A (letTemporaryGo tg o r>>=λJ=>pure r) Q E pq) E s:=by rw[hs];exact wpAny_operating (wpAny_mono h (λr pq xm=>wpAny_bind (wpAny_letTemporaryGo (wpAny_pure xm))) λJ J x=>x)
 first
  |exact wpAny_pure (wpAny_bind eF)
  |exact wpAny_bind (wpAny_pure (wpAny_bind eF))
  |exact wpAny_bind eF
theorem WN{o i:ME}{o' i':Expr}(x:TE K nms sl o o')(y:TE K nms sl i i'):TE K nms sl (.q o i) (.Subscript o' i' pos):=SE.I ⟨λX he KK=>by
 rw[arm_eval_Subscript];refine wpAny_bind (x.v.a X he λq v u E V hk=>wpAny_bind (wpAny_holding (y.v.a (X.I q E) hk λq2 v2 u2 E2 V2 hk=>wpAny_bind (wpAny_standAt ?_))))
 obtain⟨hI,g⟩:=Cf X.i.I (V.ab' E2) V2 hk (KK.aB' (E.I E2));exact ym hI (y.o.c _ _) g⟩ (λJ J=>rfl) ⟨λJ J=>rfl,λJ J=>rfl,λJ J=>rfl⟩ (λJ J J=>rfl) λJ J J J=>rfl

section
variable{C:dX}{A:Around}{s:Shared}
theorem Ct(n:Nat):Builtin.Slice.sliceAdjust none (some (-1)) 1 (n:Int)=(0,((n-1:Nat):Int)):=by
 unfold Builtin.Slice.sliceAdjust;simp only[show¬((1:Int)<0)by decide,if_false,show((-1:Int)<0)by decide,if_true]
 exact congrArg (Prod.mk 0) ((Int.ofNat_toNat _).symm.trans (congrArg _ (X6 n)))
theorem Ci(n:Nat):Builtin.Slice.slicePlaces 0 ((n-1:Nat):Int) 1=n-1:=by
 unfold Builtin.Slice.slicePlaces;simp only[show(1:Int)>0 by decide,if_true,Int.ediv_one]
 generalize n-1=m;split
 .rw[Int.sub_zero,Int.sub_add_cancel];rfl
 .next h=>exact(Nat.eq_zero_of_not_pos λz=>h (u6.mpr z)).symm
theorem Av{a:Addr}{n:Nat}{u:Tok}{E:Value->Shared->Prop}{Q:Int×Int×Nat->Shared->Prop}(hs:s.heap.IsSliceOf a .none (.int (-1) u) .none)(h:Q (0,1,n-1) s):
  wpAny C.I A (Builtin.Slice.sliceApplied (.ref a) (pure (n:Int))) Q E s:=by
 obtain⟨os,Xs,hcs,YY⟩:=id hs;unfold Builtin.Slice.sliceApplied Builtin.Slice.sliceFields;refine wpAny_bind (wpAny_bind (wpAny_field Xs YY (x:=.none) rfl (wpAny_bind (wpAny_field Xs YY (x:=.int (-1) u) rfl (wpAny_bind (wpAny_field Xs YY (x:=.none) rfl (wpAny_pure ?_)))))));refine wpAny_bind (slicePart_none ?_);show wpAny _ _ (if((1:Int)==0)=true then _ else _) _ _ s
 rw[if_neg (by decide)]
 refine wpAny_bind (slicePart_none (wpAny_bind (slicePart_int (wpAny_bind (wpAny_pure ?_)))));show wpAny _ _ (match Builtin.Slice.sliceAdjust none (some (-1)) 1 (n:Int)with|(lo,hi)=>pure (lo,(1:Int),Builtin.Slice.slicePlaces lo hi 1)) _ _ s
 rw[Ct n];show wpAny _ _ (pure ((0:Int),(1:Int),Builtin.Slice.slicePlaces 0 ((n-1:Nat):Int) 1)) _ _ s;rw[Ci n];exact wpAny_pure h
theorem HD(xs:WA):((List.range (xs.size-1)).filterMap λ(k:Nat)=>xs[((0:Int)+(k:Int)*1).toNat]?).toArray=xs.toList.dropLast.toArray:=by
 have e:(λ(k:Nat)=>xs[((0:Int)+(k:Int)*1).toNat]?)=λk=>xs[0+k]? :=by
  funext k;have:((0:Int)+(k:Int)*1).toNat=0+k:=by rw[Int.zero_add,Int.mul_one,gc];rfl
  rw[this]
 rw[e];have:=pick_run xs 0 (xs.size-1);rw[List.filterMap_map]at this
 have e2:((λx=>xs[x]?)∘λx=>0+x)=λk=>xs[0+k]? :=rfl
 rw[e2]at this
 rw[this,List.drop_zero,mX];simp
theorem DY{t a:Addr}{items:WA}{u:Tok}{E:Value->Shared->Prop}{Q:Value->Shared->Prop}(ht:IsTup s.heap t items)(hs:s.heap.IsSliceOf a .none (.int (-1) u) .none)
  (hz:¬items.size=0)(h:Q (.ref s.heap.objs.size) {s with heap:=s.heap.push (jH items.toList.dropLast.toArray 0)})
  (ix:items.size<=sizeLine):wpAny C.I A (getItem (.ref t) (.ref a)) Q E s:=by
 have DM:sizeOk (.seq items.toList.dropLast.toArray):=by show items.toList.dropLast.toArray.size<=sizeLine;rw[List.size_toArray,xx,aY];exact aA (Nat.sub_le ..) ix
 obtain⟨os,Xs,hcs,YY⟩:=id hs;have hTs:s.TypeIs (.ref a) "slice":=⟨os,Xs,hcs⟩;unfold getItem;try with_reducible refine wpAny_holding ?_
 first|refine wpAny_bind (wpAny_pure ?_)|skip
 refine wpAny_bind (wpAny_sequenceKey ht.typeIs (by decide) ?_)
 refine wpAny_bind (wpAny_callSpecial?_slot (name:="__getitem__") ht.typeIs ir
  (wpAny_call_entry ir ht.typeIs PyProof.Rows.entry_tuple_getitem ?_ (PyProof.Rows.args_tuple_getitem _ _)))
 show wpAny _ _ (Builtin.Tuple.tupleItemsOf (.ref t)>>=_) _ _ s;refine wpAny_bind (tupleItemsOf_ ht ?_);refine wpAny_bind (wpAny_typeOf hTs ?_);rw[if_pos (by decide)]
 refine wpAny_bind (Av hs ?_);show wpAny _ _ (if((0:Int)==0&&(1:Int)==1&&(items.size-1)==items.size)=true then _ else _) _ _ s
 rw[if_neg (λe=>pF (Nat.sub_one_lt hz) (eq_of_beq (ak.mp e).2)),HD items]
 first
  |exact wpAny_bind (m:=Builtin.Tuple.tupleExact _) (wpAny_newObj_type (wpAny_pure ⟨_,rfl,wpAny_pure h⟩) DM)
  |exact wpAny_bind (m:=Builtin.Tuple.tupleExact _) (wpAny_newObj_type (wpAny_bind (wpAny_pure (wpAny_pure ⟨_,rfl,wpAny_pure h⟩))) DM)
  |exact wpAny_bind (wpAny_bind (m:=Builtin.Tuple.tupleExact _) (wpAny_newObj_type (wpAny_pure (wpAny_pure ⟨_,rfl,wpAny_pure h⟩)) DM))
  |exact wpAny_bind (wpAny_bind (m:=Builtin.Tuple.tupleExact _) (wpAny_newObj_type (wpAny_pure ⟨_,rfl,wpAny_pure h⟩) DM))
end
theorem HC(items:WA)(k:Int)(h0:0<=k):slicePick items none (some k) none=(items.toList.take k.toNat).toArray:=by have ek:k=(k.toNat:Int):=(y9 h0).symm;rw[ek,slicePick_upto' items k.toNat];rfl
theorem Va{v:PV}{ns:S1}(h:v.g'=some ns):v=.n ns:=by induction v using PV.casesOn<;>first|exact congrArg _ (aq h)|exact nomatch (show none=some ns from h)
section
variable{C:dX}{p:Pt C}{A:Around}{E:Value->Shared->Prop}{k:MV->St->Prop}{Q:Value->Shared->Prop}{a:Addr}{j:Int}{t:Tok}
theorem BJ{b:Addr}{items:WA}{vs:S3}(hs:p.I.IsSliceOf a .none (.int j t) .none)(il:p.I.IsList b items)(r:bR C p.W p.I vs items.toList)(hz:items.size<=100000)(hj:0<=j/\j<1000000)(h:jT (.a (vs.take j.toNat)) p.m k)(F:w6 p k Q):pQ p.s (.ref b)/\wpAny C.I A (getItem (.ref b) (.ref a)) Q E p.s:=by
 refine⟨⟨"list",_,il.typeIs,slot_list_getitem.lookup⟩,wpAny_getItem_list_slice il hs .none (.int _ _) .none (by simp) ?_ (gM hz)⟩
 rw[HC items j hj.1];exact F.az' (r.O' j.toNat) (by rw[List.length_take,aY];exact aA (Nat.min_le_right _ _) hz) h
theorem Rf{vs:S3}{uo:Value}(hs:p.I.IsSliceOf a .none (.int (-1) t) .none)(x:VR C p.W p.I (.f vs) uo)(hz:0<vs.length)(h:k (.a (.f vs.dropLast)) p.m)(K:rW p (λv s=>k (.a v) s) Q):pQ p.s uo/\wpAny C.I A (getItem uo (.ref a)) Q E p.s:=
 x.s' λb items eb g r z=>by
  rw[eb];refine⟨⟨"tuple",_,⟨_,g.2,rfl⟩,ir.lookup⟩,DY ⟨_,g.2,rfl,0,rfl⟩ hs (λe=>by rw[r.F',e]at hz;cases hz) (K.aK' r.Q' ?_ h) (gM z)⟩
  rw[xx,aY];exact aA (Nat.sub_le _ _) z
theorem Eg{N:Jd}{o:MV}{uo:Value}(H:Ff C N)(hs:p.I.IsSliceOf a .none (.int j t) .none)(x:VM p o uo)(h:JM o none (some j) p.m k)(K:rW p (λv s=>k (.a v) s) Q)(F:w6 p k Q):pQ p.s uo/\wpAny C.I A (getItem uo (.ref a)) Q E p.s:=
 qf (fj h λJ h=>h) (λh=>qf h (λh=>dh h λvs e h=>fj h λhj h=>(x.ls e).ax' λb items n eb g r z=>eb▸BJ hs ⟨_,g,rfl,n,rfl⟩ r z (of_decide_eq_true hj) h F)
  λvs e h=>fj h λhj h=>by
   obtain⟨h1,h2,J⟩:=of_decide_eq_true hj;rw[h1]at hs
   exact Rf hs (show VM p (.a (.f vs)) uo from Dt e▸x) h2 h K)
  λns e h=>fj h λhj h=>by
   obtain⟨en,eu⟩:=(show VM p (.a (.n ns)) uo from lZ Va e▸x)
   obtain⟨items,il,ia,iz⟩:=H.q;have il':p.I.IsList C.j items:=let⟨o,ho,r⟩:=il;⟨o,p.e' _ _ ho,r⟩;rw[eu];rw[List.map_take,en]at h
   exact BJ hs il' (uv ia) (aA iz (by decide)) (of_decide_eq_true hj) h F
end
theorem x9(H:Hy K){o:ME}{o' hi':Expr}{j:Int}{p:Pos}(x:TE K nms sl o o')(hp:∀{A:Around}{s:Shared}{env:Env}{E:Value->Shared->Prop}{Q:Value->Shared->Prop},(∀t tk,Q (.int j t) {s with toks:=tk})->wpAny K.C.I A (eval hi' env) Q E s):SR K nms sl (.I o none (some j)) (.Subscript o' (.Slice none (some hi') none p) pos):=⟨λX he P F=>by
 rw[arm_eval_Subscript];refine wpAny_bind (x.v.a X he λq v u E V hk=>wpAny_bind (wpAny_holding (wpAny_Slice (wpAny_evalPart_none (wpAny_evalPart_some (hp λt tk=>wpAny_evalPart_none (wpAny_bind (wpAny_standAt ?_))))))))
 have E2:=q.g' (D:=Ah) (B:=nj) (q.I.push {cls:=.type "slice",data:=.fields #[.none,.int j t,.none]}) tk (dY.aj' _ _);obtain⟨hI,g⟩:=Eg (p:=q.m' (q.I.push {cls:=.type "slice",data:=.fields #[.none,.int j t,.none]}) tk (dY.aj' _ _)) H.B (Heap.IsSliceOf.new ..) (V.ab' E2) hk (λr v u E3=>P r v u (E.I (E2.I E3))) (F.ay' (E.I E2))
 exact ym (ops:=[.ref q.I.objs.size,u]) hI rfl g⟩
theorem Ik(H:Hy K){o:ME}{o':Expr}{j:Int}{p p2:Pos}(x:TE K nms sl o o'):TR K nms sl (.I o none (some j)) (.Subscript o' (.Slice none (some (.Constant (.int j) kk p2)) none p) pos):=⟨x9 H x λh=>wpAny_Constant_int (h _ _),λJ J=>rfl,⟨λJ J=>rfl,λJ J=>rfl,λJ J=>rfl⟩,λJ J J=>rfl,λJ J J J=>rfl⟩
theorem Il(H:Hy K){o:ME}{o':Expr}{j:Int}{p p2 p3:Pos}(x:TE K nms sl o o'):TR K nms sl (.I o none (some (-j))) (.Subscript o' (.Slice none (some (.UnaryOp .USub (.Constant (.int j) kk p2) p3)) none p) pos):=⟨x9 H x λh=>wpAny_UnaryOp (wpAny_Constant_int (PySem.P.neg_int (h _ _))),λJ J=>rfl,⟨λJ J=>rfl,λJ J=>rfl,λJ J=>rfl⟩,λJ J J=>rfl,λJ J J J=>rfl⟩

structure GH(W W':Wd)(a dx:Addr)(k1 k2:aaa):Prop where
 f:∀b k,W'.d b=some k->(b=a/\k1=some k)\/(b=dx/\k2=some k)\/(b≠a/\b≠dx/\W.d b=some k)
 d:∀b k,b≠a->b≠dx->W.d b=some k->W'.d b=some k
 l:∀b c k,W.d b=some (.e c k,false)->b≠a/\b≠dx
 g:∀k,k1=some k->k2≠some k
 j:∀b k,b≠a->b≠dx->k1=some k->W.d b≠some k
 i:∀b k,b≠a->b≠dx->k2=some k->W.d b≠some k
 n:∀t x,k1≠some (.d t,x)
 m:∀t x,k2≠some (.d t,x)
theorem GH.O{a:Addr}(T:GH W W' a dx k1 k2)(u:∀a b k,W.d a=some k->W.d b=some k->a=b):∀b c k,W'.d b=some k->W'.d c=some k->b=c:=by
 intro b c k x y;rcases T.f b k x with⟨x1,x2⟩|⟨x1,x2⟩|⟨x1,x2,x3⟩<;>rcases T.f c k y with⟨y1,y2⟩|⟨y1,y2⟩|⟨y1,y2,y3⟩
 .exact x1.trans y1.symm
 .exact absurd y2 (T.g k x2)
 .exact absurd y3 (T.j c k y1 y2 x2)
 .exact absurd x2 (T.g k y2)
 .exact x1.trans y1.symm
 .exact absurd y3 (T.i c k y1 y2 x2)
 .exact absurd x3 (T.j b k x1 x2 y2)
 .exact absurd x3 (T.i b k x1 x2 y2)
 .exact u b c k x3 y3
theorem GH.I(T:GH W W' a dx k1 k2)(R:w4 C W h st)(K:g9 W h W' h')(hh:∀b,eE h b->h'.get? b=h.get? b)(la:eE h' a)(ld:eE h' dx)(hq:∀b Q x,b≠a->b≠dx->W.d b=some (Q,x)->∀y,W.d a≠some (Q,y)/\W.d dx≠some (Q,y))(hs:∀b Q x,b≠a->b≠dx->W.d b=some (Q,x)->∀c,aW W st Q=some c->aW W' cU Q=some c)(c1:∀Q x,k1=some (Q,x)->∃c,aW W' cU Q=some c/\(x=false->gr C W' h' Q c a))(c2:∀Q x,k2=some (Q,x)->∃c,aW W' cU Q=some c/\x=true):w4 C W' h' cU:=by
 refine R.O K (λb c k e=>T.d b _ (T.l b c k e).1 (T.l b c k e).2 e) (T.O R.f) (λb k e=>?_) (λb t x e=>?_) λb Q x e=>?_
 .rcases T.f b k e with⟨x1,J⟩|⟨x1,J⟩|⟨J,J,x3⟩
  .exact x1▸la
  .exact x1▸ld
  .exact(show(h'.get? b).isSome=true from(hh b (R.d b k x3)).symm▸R.d b k x3)
 .rcases T.f b _ e with⟨J,x2⟩|⟨J,x2⟩|⟨J,J,x3⟩
  .exact absurd x2 (T.n t x)
  .exact absurd x2 (T.m t x)
  .exact R.g b t x x3
 .rcases T.f b _ e with⟨x1,x2⟩|⟨x1,x2⟩|⟨x1,x2,x3⟩
  .obtain⟨c,e1,r⟩:=c1 Q x x2;exact .inr ⟨c,e1,λhx=>x1▸r hx⟩
  .obtain⟨c,e1,r⟩:=c2 Q x x2;exact .inr ⟨c,e1,λhx=>Bool.noConfusion (r.symm.trans hx)⟩
  .refine .inl ⟨x3,λc y z=>⟨T.d c _ (λw=>(hq b Q x x1 x2 x3 y).1 (w▸z)) (λw=>(hq b Q x x1 x2 x3 y).2 (w▸z)) z,hh c (R.d c _ z)⟩,λc hc=>⟨c,hs b Q x x1 x2 x3 c hc,.inl rfl⟩⟩
structure DT(p:Pt C)(c:Nat)(P:Pl)(cU:St)(a dx:Addr)(q:Pt C):Prop where
 s:q.s= {p.s with heap:=(p.I.push emptyDict).push (instObj (C.a c) dx)}
 h:q.m=cU
 E:Ex p q
 d:q.W.d a=some (P,false)
 i:q.W.d dx=some (P,true)
 l:p.I.get? a=none
 j:p.I.get? dx=none
theorem QJ(R:w4 C W h st)(na:W.d a=none)(nd:W.d dx=none)(sW:a≠dx)(hP:∀t,P≠ .d t)(new:aW W st P=none):GH W ((W.I dx (some (P,true))).I a (some (P,false))) a dx (some (P,false)) (some (P,true)):=by
 have nb:∀b x,W.d b≠some (P,x):=λb x e=>by obtain⟨c',e1,J⟩:=R.j b P x e;exact nn (new.symm.trans e1)
 refine⟨λb k e=>?_,λb k h1 h2 e=>(Wd.J _ _ h1).trans ((Wd.J _ _ h2).trans e),λb c k e=>⟨iO na e,iO nd e⟩,λk e e2=>?_,λb k J J e=>?_,λb k J J e=>?_,λt x e=>?_,λt x e=>?_⟩
 .rcases Wd.V e with z|⟨z1,z2⟩
  .exact .inl z
  .rcases Wd.V z2 with w|⟨w1,w2⟩
   .exact .inr (.inl w)
   .exact .inr (.inr ⟨z1,w1,w2⟩)
 .obtain rfl:=si e;cases e2
 .obtain rfl:=si e;exact nb b _
 .obtain rfl:=si e;exact nb b _
 .obtain⟨rfl,rfl⟩:=u7 e;exact hP t rfl
 .obtain⟨rfl,rfl⟩:=u7 e;exact hP t rfl
theorem Bm(p:Pt C)(c:Nat)(P:Pl)(hP:∀t,P≠ .d t)(cU:St)(new:aW p.W p.m P=none)(hc:aW p.W cU P=some (.g c []))(hs:∀P c,aW p.W p.m P=some c->aW p.W cU P=some c)(hl:cU.a.length=p.m.a.length):∃q,DT p c P cU (p.I.objs.size+1) p.I.objs.size q:=by
 have g:dY p.I ((p.I.push emptyDict).push (instObj (C.a c) p.I.objs.size)):=(dY.aj' _ _).am' (dY.aj' _ _);have nd:=cJ p.I;have na:p.I.get? (p.I.objs.size+1)=none:=(dY.aj' p.I emptyDict).al' (by rw[<-kY p.I emptyDict];exact cJ _)
 have ga:((p.I.push emptyDict).push (instObj (C.a c) p.I.objs.size)).get? (p.I.objs.size+1)=some (instObj (C.a c) p.I.objs.size):=by have:=bq (p.I.push emptyDict) (o:=instObj (C.a c) p.I.objs.size) rfl;rwa [kY]at this
 have gd:((p.I.push emptyDict).push (instObj (C.a c) p.I.objs.size)).get? p.I.objs.size=some (dictOf [] 0):=dU _ (bq _ rfl);have sW:=Nat.succ_ne_self p.I.objs.size;have T:=QJ p.r (p.V na) (p.V nd) sW hP new;have od:((p.W.I p.I.objs.size (some (P,true))).I (p.I.objs.size+1) (some (P,false))).d p.I.objs.size=some (P,true):=(Wd.J _ _ sW.symm).trans (Wd.O ..);have KK:g9 p.W p.I ((p.W.I p.I.objs.size (some (P,true))).I (p.I.objs.size+1) (some (P,false))) ((p.I.push emptyDict).push (instObj (C.a c) p.I.objs.size)):=⟨λb o x=>⟨(Wd.J _ _ (sR na x)).trans ((Wd.J _ _ (sR nd x)).trans x.1),g b o x.2⟩,λb i e=>T.d b _ (iO (p.V na) e) (iO (p.V nd) e) e,λb i e=>⟨T.d b _ (iO (p.V na) e) (iO (p.V nd) e) e,rfl⟩⟩
 have R:=T.I p.r KK (λb l=>g.ak' l) (bS ga) (bS gd) (λb Q x J J J y=>⟨(λe=>by rw[p.V na]at e;exact nn e),λe=>by rw[p.V nd]at e;exact nn e⟩) (λb Q x J J J c e=>hs Q c e) (λQ x e=>by cases e;exact⟨_,hc,λJ=>⟨p.I.objs.size,[],0,ga,od,gd,rfl,rfl⟩⟩) λQ x e=>by cases e;exact⟨_,hc,rfl⟩
 exact⟨⟨_,{p.s with heap:=_},cU,R⟩,rfl,rfl,⟨rfl,KK.b,λb k e=>.inl (T.d b _ (iO (p.V na) e) (iO (p.V nd) e) e),λb t e J=>g.ak' (p.r.d b _ e),λJ J J J=>rfl,λk z=>.inl (by
  induction k with
  |b l i=>exact hs (.b l i) .d z
  |_=>exact z.elim),hl,λJ J=>g.lv⟩,Wd.O ..,od,na,nd⟩

theorem ya{a:S5}:∀{b:S5},Dz a b=true->a=b:=by
 induction a with
 |nil=>intro b h;induction b using aQ with
  |nil=>rfl
  |cons=>exact Bool.noConfusion h
 |cons x a ih=>intro b h;induction b using aQ with
  |nil=>exact Bool.noConfusion h
  |cons y b=>obtain⟨h1,h2⟩:=ak.mp h;rw[bM h1,ih h2]
theorem Qy{r:V6}{d:ah}(hP:P≠ .b rr.length (r.length-1))(e:aW W ⟨pm,r::rr,ni⟩ P=some d):aW W ⟨pm,r.dropLast::rr,ni⟩ P=some d:=by
 induction P with
 |b l i=>
  change(r::rr).reverse[l]?.bind (·[i]?)=some d at e
  show(r.dropLast::rr).reverse[l]?.bind (·[i]?)=some d;rw[fM]at e⊢
  rcases ry l rr.reverse.length with z|z|z
  .rw[aZ z]at e⊢;exact e
  .subst z;rw[bu]at e⊢
   have hi:=(aL.mp (show r[i]?=some d from e)).1
   show r.dropLast[i]?=some d;rw[mX,List.getElem?_take_of_lt (by rw[cM]at hP;exact i0 (Nat.le_sub_one_of_lt hi) λz=>hP (by rw[z]))]
   exact e
  .rw[aV (by rw[aa];exact z)]at e;exact nn e
 |_=>exact e
structure vO(q:Pt C)(a dx:Addr)(P:Pl)(gq:St):Prop where
 f:q.W.d a=some (P,false)
 d:q.W.d dx=some (P,true)
 g:∃l i,P=.b l i
 h:∀Q c,Q≠P->aW q.W q.m Q=some c->aW q.W gq Q=some c
 m:gq.a.length=q.m.a.length
theorem BB(G:vO q a dx P gq)(ne:∀k,k1=some k->k2≠some k)(n1:∀b k,k1=some k->q.W.d b≠some k)(n2:∀b k,k2=some k->q.W.d b≠some k)(t1:∀t x,k1≠some (.d t,x))(t2:∀t x,k2≠some (.d t,x)):GH q.W ⟨((q.W.I dx k2).I a k1).d,nv⟩ a dx k1 k2:=by
 obtain⟨l,i,e⟩:=G.g;have no:∀{b c k x},q.W.d b=some (.e c k,false)->q.W.d b≠some (P,x):=λe1 e2=>by rw[e1,e]at e2;cases e2
 refine⟨λb k e=>?_,λb k h1 h2 e=>(Wd.J _ _ h1).trans ((Wd.J _ _ h2).trans e),λb c k e=>⟨λz=>no e (z▸G.f),λz=>no e (z▸G.d)⟩,ne,λb k J J=>n1 b k,λb k J J=>n2 b k,t1,t2⟩
 rcases Wd.V e with z|⟨z1,z2⟩
 .exact .inl z
 .rcases Wd.V z2 with w|⟨w1,w2⟩
  .exact .inr (.inl w)
  .exact .inr (.inr ⟨z1,w1,w2⟩)
theorem yq{k:Pl}(g:jU st k):aW W st k=some .d:=by
 induction k with
 |b l i=>exact g
 |_=>exact g.elim
theorem QZ{k:Pl}(g:jU st k)(hs:aW W st k=some .d->aW W gq k=some .d)(hr:cU.a=gq.a):jU cU k:=by
 induction k with
 |b l i=>exact(congrArg (λr:V5=>r.reverse[l]?.bind (·[i]?)) hr).trans (hs g)
 |_=>exact g.elim
theorem vO.I(G:vO q a dx P gq)(T:GH q.W ⟨((q.W.I dx k2).I a k1).d,nv⟩ a dx k1 k2)(hn:∀b i x,q.W.d b=some (.g i,x)->nv i=q.W.f i):g9 q.W q.I ⟨((q.W.I dx k2).I a k1).d,nv⟩ q.I:=by
 have nk:∀{b Q x},q.W.d b=some (Q,x)->(∀l j,Q≠ .b l j)->b≠a/\b≠dx:=λ{b Q x} e n=>by obtain⟨l,j,eP⟩:=G.g;exact⟨λz=>n l j (by rw[z,G.f,eP]at e;obtain⟨rfl,rfl⟩:=u7 e;rfl),λz=>n l j (by rw[z,G.d,eP]at e;obtain⟨rfl,rfl⟩:=u7 e;rfl)⟩
 have ne:∀{b c k},q.W.d b=none->q.W.d c=some k->b≠c:=λe1 e2 z=>by rw[z,e2]at e1;exact sn e1
 exact⟨λb o x=>⟨(Wd.J _ _ (ne x.1 G.f)).trans ((Wd.J _ _ (ne x.1 G.d)).trans x.1),x.2⟩,λb i e=>T.d b _ (nk e λJ J=>nofun).1 (nk e λJ J=>nofun).2 e,λb i e=>⟨T.d b _ (nk e λJ J=>nofun).1 (nk e λJ J=>nofun).2 e,hn b i _ e⟩⟩
structure EZ(p q:Pt C)(a dx:Addr)(P:Pl)(gq:St)(k1 k2:aaa)(nv:Nat->S3)(cU:St):Prop where
 s:Ex p q
 n:p.I.get? a=none
 m:p.I.get? dx=none
 h:aW p.W p.m P=none
 G:vO q a dx P gq
 T:GH q.W ⟨((q.W.I dx k2).I a k1).d,nv⟩ a dx k1 k2
 d:∀b i x,q.W.d b=some (.g i,x)->nv i=q.W.f i
 r:∀b Q x,q.W.d b=some (Q,x)->∀c,aW q.W gq Q=some c->aW ⟨((q.W.I dx k2).I a k1).d,nv⟩ cU Q=some c
 j:cU.a=gq.a
theorem EZ.I{a dx:Addr}{k1 k2:aaa}(U:EZ p q a dx P gq k1 k2 nv cU)(c1:∀K:g9 q.W q.I ⟨((q.W.I dx k2).I a k1).d,nv⟩ q.I,∀Q x,k1=some (Q,x)->∃c,aW ⟨((q.W.I dx k2).I a k1).d,nv⟩ cU Q=some c/\(x=false->gr C ⟨((q.W.I dx k2).I a k1).d,nv⟩ q.I Q c a))(c2:∀Q x,k2=some (Q,x)->∃c,aW ⟨((q.W.I dx k2).I a k1).d,nv⟩ cU Q=some c/\x=true):w4 C ⟨((q.W.I dx k2).I a k1).d,nv⟩ q.I cU:=by
 have G:=U.G;have KK:=G.I U.T U.d;have hq:∀b Q x,b≠a->b≠dx->q.W.d b=some (Q,x)->Q≠P:=λb Q x h1 h2 e z=>by
  induction x with
  |false=>exact h1 (q.r.f b a _ (z▸e) G.f)
  |true=>exact h2 (q.r.f b dx _ (z▸e) G.d)
 exact U.T.I q.r KK (λJ J=>rfl) (q.r.d a _ G.f) (q.r.d dx _ G.d) (λb Q x h1 h2 e y=>⟨λz=>hq b Q x h1 h2 e (by rw[G.f]at z;cases z;rfl),λz=>hq b Q x h1 h2 e (by rw[G.d]at z;cases z;rfl)⟩) (λb Q x h1 h2 e c hc=>U.r b Q x e c (G.h Q c (hq b Q x h1 h2 e) hc)) (c1 KK) c2
theorem EZ.O(U:EZ p q a dx P gq k1 k2 nv cU)(R:w4 C ⟨((q.W.I dx k2).I a k1).d,nv⟩ q.I cU):Ex p ⟨_,q.s,cU,R⟩:=by
 obtain⟨l,i,eP⟩:=U.G.g;have E0:=U.s;have gn:∀k,jU q.m k->k≠P->jU cU k:=λk g hk=>QZ g (U.G.h k .d hk) U.j
 have oa:=p.V U.n;have od:=p.V U.m;have cc:∀{b k},p.W.d b=some k->k.1≠P:=λ{b k} e hk=>by obtain⟨Q,x⟩:=k;obtain⟨c,e1,J⟩:=p.r.j b Q x e;exact nomatch (hk▸U.h).symm.trans e1
 exact⟨E0.w,λb o x=>(U.G.I U.T U.d).b b o (E0.j b o x),λb k e=>(E0.u b k e).imp (U.T.d b k (iO oa e) (iO od e)) λz=>z.imp (λz=>gn _ z (cc e)) id,E0.c,λb i x e=>(U.d b i x (E0.O e (λJ J=>nofun) nofun)).trans (E0.A b i x e),λk g=>.inl (gn k ((E0.v k g).elim id λ⟨_,_,_,f⟩=>f.elim) λhk=>(nomatch (hk▸U.h).symm.trans (yq g))),(congrArg List.length U.j).trans (U.G.m.trans E0.m),E0.s⟩

variable{p0:Pt C}
structure N3(q:Pt C)(c:Nat)(as:WL)(a dx:Addr)(es:aae)(n:Nat):Prop where
 d:q.I.get? a=some (instObj (C.a c) dx)
 b:q.I.get? dx=some (dictOf es n)
 k:AK C (as.map (·.1)) es
 r:bR C q.W q.I (as.map (·.2)) (es.map (·.val))
theorem DT.I{c:Nat}{sb:St}(X:DT p c P sb a dx p0)(E0:Ex p0 q){c':Nat}(hc:aW q.W q.m P=some (.g c' as)):q.W.d a=some (P,false)/\q.W.d dx=some (P,true)/\∃es n,N3 q c' as a dx es n:=by
 have ng:¬jU q.m P:=λg=>nomatch hc.symm.trans (yq g)
 have o:∀{b x},p0.W.d b=some (P,x)->q.W.d b=some (P,x):=λe=>(E0.u _ _ e).elim id λz=>z.elim (λg=>absurd g ng) λz=>z.elim (λ⟨_,_,_,f⟩=>f.elim) λz=>z.2.elim
 refine⟨o X.d,o X.i,?_⟩;obtain⟨c2,e1,r⟩:=q.r.j a P false (o X.d);obtain rfl:=si (hc.symm.trans e1);obtain⟨d2,es,n,g,od,g2,k,r⟩:=r rfl;rw[q.r.f _ _ _ od (o X.i)]at g g2
 exact⟨es,n,g,g2,k,r⟩
theorem VW{fl:S5}{j:Int}(h:as.map (·.1)=fl++[5])(e:as.getLast?.map (·.2)=some (.d j)):fl.zip (as.dropLast.map (·.2))++[(5,.d j)]=as:=by
 obtain⟨l,x,rfl⟩:∃l x,as=l++[x]:=by
  rcases mV as with z|⟨l,x,z⟩
  .subst z;exact nn e
  .exact⟨l,x,z.trans mY⟩
 rw[xy]at e
 rw[aD]at h
 obtain⟨h1,h2⟩:=List.append_inj' h rfl;rw[g5,<-h1,List.zip_map',List.map_id'];obtain⟨m,v⟩:=x;obtain rfl:=si e
 cases h2
 rfl
theorem vO.O(G:vO q a dx P gq):dx≠a:=λz=>by have:=G.f;rw[<-z,G.d]at this;cases this
theorem KY{c:Nat}{es:aae}(E0:Ex p q)(na:p.I.get? a=none)(nd:p.I.get? dx=none)(new:aW p.W p.m P=none)(G:vO q a dx P gq)(F:N3 q c as a dx es n)(hf:as.map (·.1)=fZ c):∃r:Pt C,r.s=q.s/\r.m=gq/\Ex p r/\VR C r.W r.I (.m c (as.map (·.2))) (.ref a):=by
 have T:GH q.W ⟨((q.W.I dx none).I a none).d,q.W.f⟩ a dx none none:=BB G (λJ=>nofun) (λJ J=>nofun) (λJ J=>nofun) (λJ J=>nofun) λJ J=>nofun
 have U:EZ p q a dx P gq none none q.W.f gq:=⟨E0,na,nd,new,G,T,λJ J J J=>rfl,λb Q x J c e=>e,rfl⟩
 exact⟨⟨_,q.s,gq,U.I (λJ J J=>nofun) λJ J=>nofun⟩,rfl,rfl,U.O _,a,dx,es,n,rfl,⟨Wd.O ..,F.d⟩,⟨(Wd.J _ _ G.O).trans (Wd.O ..),F.b⟩,hf▸F.k,bR.H' (G.I T U.d) _ _ F.r⟩
theorem PZ{es:aae}{j:Int}(E0:Ex p q)(na:p.I.get? a=none)(nd:p.I.get? dx=none)(new:aW p.W p.m P=none)(G:vO q a dx P gq)(F:N3 q 0 as a dx es n)(hf:as.map (·.1)=fZ 0++[5])(hj:as.getLast?.map (·.2)=some (.d j))(hn:gq.c=q.m.c):∃r:Pt C,r.s=q.s/\r.m=⟨gq.b,gq.a,gq.c++[j]⟩/\Ex p r/\VR C r.W r.I (.l gq.c.length (as.dropLast.map (·.2))) (.ref a):=by
 have no:∀b x,q.W.d b≠some (.g gq.c.length,x):=λb x e=>by
  obtain⟨c,e1,J⟩:=q.r.j b _ x e;obtain⟨i,e2,J⟩:=aC.mp e1;rw[hn]at e2
  exact absurd (aL.mp e2).1 (Nat.lt_irrefl _)
 have nn:∀b i x,q.W.d b=some (.g i,x)->i≠gq.c.length:=λb i x e z=>no b x (z▸e)
 have T:GH q.W ⟨((q.W.I dx (some (.g gq.c.length,true))).I a (some (.g gq.c.length,false))).d,λi=>if i=gq.c.length then as.dropLast.map (·.2)else q.W.f i⟩ a dx _ _:=BB G (λJ e=>by obtain rfl:=si e;nofun) (λb J e=>by obtain rfl:=si e;exact no b _) (λb J e=>by obtain rfl:=si e;exact no b _) (λJ J=>nofun) λJ J=>nofun
 have hc:aW ⟨((q.W.I dx (some (.g gq.c.length,true))).I a (some (.g gq.c.length,false))).d,λi=>if i=gq.c.length then as.dropLast.map (·.2)else q.W.f i⟩ ⟨gq.b,gq.a,gq.c++[j]⟩ (.g gq.c.length)=some (.g 0 as):=by
  show((gq.c++[j])[gq.c.length]?.map λj=>ah.g 0 ((fZ 0).zip (if gq.c.length=gq.c.length then as.dropLast.map (·.2)else _)++[(5,.d j)]))=_
  rw[bu,if_pos rfl];exact congrArg (λx=>some (ah.g 0 x)) (VW hf hj)
 have U:EZ p q a dx P gq (some (.g gq.c.length,false)) (some (.g gq.c.length,true)) (λi=>if i=gq.c.length then as.dropLast.map (·.2)else q.W.f i) ⟨gq.b,gq.a,gq.c++[j]⟩:=⟨E0,na,nd,new,G,T,λb i x e=>if_neg (nn b i x e),λb Q x e c hq=>by
  induction Q with
  |g i=>
   obtain⟨i',e2,e3⟩:=aC.mp hq;show((gq.c++[j])[i]?.map λj=>ah.g 0 ((fZ 0).zip (if i=gq.c.length then as.dropLast.map (·.2)else _)++[(5,.d j)]))=_
   rw[if_neg (nn b i x e),aZ (aL.mp e2).1,e2];exact congrArg some e3
  |_=>exact hq,rfl⟩
 have R:=U.I (λK Q x e=>by obtain⟨rfl,rfl⟩:=u7 e;refine⟨_,hc,λJ=>⟨dx,es,n,F.d,(Wd.J _ _ G.O).trans (Wd.O ..),F.b,F.k,bR.H' K _ _ F.r⟩⟩) λQ x e=>by obtain⟨rfl,rfl⟩:=u7 e;exact⟨_,hc,rfl⟩
 exact⟨⟨_,q.s,_,R⟩,rfl,rfl,U.O R,⟨a,rfl,Wd.O ..⟩,if_pos rfl⟩

variable{cl:CL}{c:Nat}{x:iJ}{vs:WC}{v:MV}{k:KP}{Q:Result->Shared->Prop}
theorem lE.I(kl:lE C c x):(C.K c).In p.I:=kl.a.keeps p.e'
theorem A9(X:DT p c P cU (p.I.objs.size+1) dx q)(hs:dx=p.I.objs.size)(kl:lE C c x)(hf:x.a=some f)(co:nG C cl n)(room:mT A (2*n+2))(V:ly p vs us)(hv:VM q v (.ref (p.I.objs.size+1)))(e:cl f (v::vs) q.m k)(K:rW q k λu s=>u=.none/\Q (.ok (.ret (.ref (p.I.objs.size+1)))) s):codeAny C.I A (.call (.ref (C.a c)) ⟨us,[]⟩) Q p.s:=by
 have hi:=kl.e;rw[hf]at hi
 subst hs;exact make_core (makes_of kl.I kl.d) (looks_findIn (kl.I (p:=p)) hi.1) (λT9=>bind_fn kl.I T9 hi.2) (.inl rfl) (X.s▸co (room.O _ _) (.bc' hv (V.bh' (D:=Ah) X.E)) e λr v u E Vr hk=>(K r v u E Vr hk).imp (λe=>by rw[e]) id)
theorem Pt.D'(p:Pt C):p.I.get? (p.I.objs.size+1)=none:=(dY.aj' p.I emptyDict).al' (by rw[<-kY p.I emptyDict];exact cJ _)
theorem Eh(kl:lE C c x)(hx:gX c=some x)(hf:x.a=none)(hk:k (.m c []) p.m)(K:rW p k λu s=>Q (.ok (.ret u)) s):codeAny C.I A (.call (.ref (C.a c)) ⟨[],[]⟩) Q p.s:=by
 have hi:=kl.e;rw[hf]at hi
 have Y:=makes_of (M:=model C.d C.w) (kl.I (p:=p)) kl.d;have g:dY p.I ((p.I.push emptyDict).push (instObj (C.a c) p.I.objs.size)):=(dY.aj' _ _).am' (dY.aj' _ _);have ga:((p.I.push emptyDict).push (instObj (C.a c) p.I.objs.size)).get? (p.I.objs.size+1)=some (instObj (C.a c) p.I.objs.size):=by have:=bq (p.I.push emptyDict) (o:=instObj (C.a c) p.I.objs.size) rfl;rwa [kY]at this
 have gd:((p.I.push emptyDict).push (instObj (C.a c) p.I.objs.size)).get? p.I.objs.size=some (dictOf [] 0):=dU _ (bq _ rfl);have t1:Looks C.I ((p.I.push emptyDict).push (instObj (C.a c) p.I.objs.size)) (typeOf (.ref (p.I.objs.size+1))) (.ref (C.a c)):=(Looks.ld ga).andThen .now;have t2:Looks C.I ((p.I.push emptyDict).push (instObj (C.a c) p.I.objs.size)) (isInstance (.ref (p.I.objs.size+1)) (.type "object")) true:=t1.andThen (Y.top.keeps g);refine make_core Y (looks_findIn (kl.I (p:=p)) hi.1) (λT9=>Looks.of_pure (oi_bind T9)) (.inr ⟨rfl,rfl⟩) (codeAny_call_builtin oi_plain entry_oi (@check_slot C.I _ _ _ "object.__init__" "object" "__init__" (.ref (p.I.objs.size+1)) [] [] _ oi_kind oi_split t2 (oi_args (.ref (p.I.objs.size+1))) ?_))
 rw[oi_run];refine wpAny_pure (And.intro rfl (K (p.m' _ p.s.toks g) (.m c []) _ (p.g' _ _ _) ⟨_,_,[],0,rfl,⟨p.V p.D',ga⟩,⟨p.V (cJ p.I),gd⟩,?_,rfl⟩ hk));show AK C (fZ c) [];unfold fZ;rw[hx];show AK C x.c [];rw[hi.2];rfl
theorem Kh{v:PV}(h:I0 (.a v)=true):v=.h:=by induction v using PV.casesOn<;>first|rfl|exact nomatch (show false=true from h)
theorem K9(H:lE C c x)(hf:x.a=some f)(co:nG C cl n)(room:mT A (2*n+2))(V:ly p vs us)(e:cl f (.a (.e p.m.b.length)::vs) (p.m.J (· ++[.g c []])) λr s'=>gb (I0 (.a r)) (k (.e p.m.b.length) s'))(K:rW p k λu s=>Q (.ok (.ret u)) s):codeAny C.I A (.call (.ref (C.a c)) ⟨us,[]⟩) Q p.s:=by
 obtain⟨W,s,⟨pm,rg,ni⟩,rel⟩:=p;obtain⟨q,X⟩:=Bm ⟨W,s,⟨pm,rg,ni⟩,rel⟩ c (.f pm.length) (λJ=>nofun) ⟨pm++[.g c []],rg,ni⟩ (aV (aH _)) bu (λP d e=>CP e) rfl
 have e1:q.m=_:=X.h;exact A9 X rfl H hf co room V (v:=.a (.e pm.length)) ⟨_,rfl,X.d⟩ (by rw[e1];exact e) λr v u E Vr hk=>fj hk λhn hk=>by obtain rfl:=Kh hn;exact⟨Vr,K r (.e pm.length) _ (X.E.I E) ⟨_,rfl,E.O X.d (λJ J=>nofun) nofun⟩ hk⟩
theorem Q3{r:Pt C}{fl:S5}{es:aae}{Q:Value->Shared->Prop}(E0:Ex p r)(na:p.I.get? a=none)(nd:p.I.get? dx=none)(new:aW p.W p.m P=none)(G:vO r a dx P gq)(F:N3 r c as a dx es m)(TL:fZ c=fl)(hk:IK c fl as gq k)(hn:gq.c=r.m.c)(K:rW p k Q):Q (.ref a) r.s:=by
 subst TL;unfold IK at hk
 by_cases c0:c=0
 .rw[if_pos c0]at hk
  subst c0;refine fj hk λh3 hk1=>dh hk1 λj h4 I4=>?_
  obtain⟨j',e5,e6⟩:=fC h4;obtain⟨r,es,Ag,Er,Vr⟩:=PZ E0 na nd new G F (ya h3) (e5.trans (congrArg some (l6 e6))) hn;obtain⟨pm,rg,ni⟩:=gq;exact es▸K r _ _ Er Vr (Ag▸I4)
 .rw[if_neg c0]at hk
  refine fj hk λh3 hk=>?_
  obtain⟨r,es,Ag,Er,Vr⟩:=KY E0 na nd new G F (ya h3);exact es▸K r _ _ Er Vr (Ag▸hk)
theorem Ld(H:lE C c x)(hx:gX c=some x)(hf:x.a=some f)(co:nG C cl n)(room:mT A (2*n+2))(V:ly p vs us)(e:jT (.g c []) p.m λv s=>cl f (v::vs) s λr s=>gb (I0 (.a r)) (Es v s λo s=>ob o.O λy=>gb (Nat.beq y.1 c) (IK c x.c y.2 s k)))(K:rW p k λu s=>Q (.ok (.ret u)) s):codeAny C.I A (.call (.ref (C.a c)) ⟨us,[]⟩) Q p.s:=by
 obtain⟨W,s,⟨pm,rg,ni⟩,rel⟩:=p
 induction rg using aQ with
 |nil=>exact e.elim
 |cons r0 rr=>
  have Yg:aW W ⟨pm,r0::rr,ni⟩ (.b rr.length r0.length)=none:=pJ.trans (aV (aH _));obtain⟨q,X⟩:=Bm ⟨W,s,⟨pm,r0::rr,ni⟩,rel⟩ c (.b rr.length r0.length) (λJ=>nofun) ⟨pm,(r0++[.g c []])::rr,ni⟩ Yg (pJ.trans bu) (λP d e=>FL e) rfl
  have e1:q.m=_:=X.h;refine A9 X rfl H hf co room V (v:=.b 0 r0.length) ⟨?_,.inr ⟨_,rfl,?_⟩⟩ (by rw[e1];exact e) λr v u E Vr hk=>fj hk λhn hk=>?_
  .rw[e1];exact pC _
  .rw[e1];exact X.d
  obtain rfl:=Kh hn;refine⟨Vr,?_⟩;have E0:=X.E.I E;have hl:=E0.m;obtain⟨W',s',⟨YC,N8,jR⟩,wv⟩:=r
  induction N8 using aQ with
  |nil=>exact hk.elim
  |cons r1 Xd=>
   have hl:Xd.length=rr.length:=pD hl;replace hk:gb (Nat.beq (r0.length+1) r1.length) (ob r1[r0.length]? λo=>ob o.O λy=>gb (Nat.beq y.1 c) (IK c x.c y.2 ⟨YC,r1.dropLast::Xd,jR⟩ k)):=hk
   refine fj hk λh1 hk=>dh hk λo ho hk=>dh hk λy hy hk=>fj hk λh2 hk=>?_
   have hj:r1.length=r0.length+1:=(bM h1).symm;have hc:aW W' ⟨YC,r1::Xd,jR⟩ (.b rr.length r0.length)=some (.g c y.2):=by rw[<-hl,pJ,ho,yQ hy,bM h2]
   obtain⟨oa,od,es,n,F⟩:=X.I E hc;have G:vO ⟨W',s',⟨YC,r1::Xd,jR⟩,wv⟩ _ _ (.b rr.length r0.length) ⟨YC,r1.dropLast::Xd,jR⟩:=⟨oa,od,⟨_,_,rfl⟩,λQ d hQ=>Qy (by rw[hl,hj];exact hQ),rfl⟩
   exact Q3 E0 X.l X.j Yg G F (by unfold fZ;rw[hx]) hk rfl K
theorem Qn(H:∀c k,gX c=some k->lE C c k)(co:nG C cl n)(room:mT A (2*n+2))(V:ly p vs us)(e:zL cl c vs p.m k)(K:rW p k λu s=>Q (.ok (.ret u)) s):codeAny C.I A (.call (.ref (C.a c)) ⟨us,[]⟩) Q p.s:=by
 unfold zL at e
 refine dh e λx hx e=>?_
 have kl:=H c x hx
 induction hf:x.a with
 |none=>
  rw[hf]at e
  refine fj e λe1 e=>?_
  induction vs using aQ with
  |cons=>exact ft e1
  |nil=>subst V;exact Eh kl hx hf e K
 |some f=>
  rw[hf]at e
  induction hz:x.d with
  |false=>
   rw[hz]at e
   exact K9 kl hf co room V e K
  |true=>
   rw[hz]at e
   exact Ld kl hx hf co room V e K

variable{args:AZ}{x:Str}{np:Pos}
def tL(C:dX)(f:Value):Prop:=∀h,(∀b o,C.b.get? b=some o->h.get? b=some o)->∃k,(k=Keeper.frame\/k=Keeper.machine\/k=Keeper.boundFrame)/\Looks C.I h (keeperOf f) k
theorem Bw(B:Ff C N){mf:bH}(hf:jL[f]?=some mf):au.tL C (.ref (C.e f)):=λh k=>by obtain⟨o,fd,g,hd⟩:=B.A f mf hf;refine⟨.frame,.inl rfl,(Looks.ld (part:=none) (k _ _ g)).andThen ?_⟩;rw[hd];exact .now
theorem HX{k:iJ}(B:lE C c k):au.tL C (.ref (C.a c)):=λh kk=>by obtain⟨k',a,b⟩:=looks_keep (M:=model C.d C.w) B.m (B.a.keeps kk);exact⟨k',a.elim .inl (λe=>.inr (.inl e)),b⟩
theorem tV(i:String):au.tL C (.builtin i):=λh J=>⟨.machine,.inr (.inl rfl),Looks.now⟩
theorem qb(i:String):au.tL C (.type i):=λh J=>⟨.machine,.inr (.inl rfl),Looks.now⟩
abbrev JC(g6:WB)(env:Env):Prop:=starEach g6 env=g6.map λe=>(false,eval e env)
theorem wu(hn:JC g6 env):backTo pos (starEach g6 env)=g6.map λe=>(false,eval e env):=by rw[hn];exact eX
theorem p7{f:Value}{first:S9}{Q:Value->Shared->Prop}(hn:JC g6 env)(h:wpAny C.I A (spliced (backTo pos (starEach g6 env))) (λus cu=>((∀b o,C.b.get? b=some o->cu.heap.get? b=some o)/\au.tL C f)/\wpAny C.I A (call f (first++us)) Q E cu) E s):
  wpAny C.I A (callWith pos f first (backTo pos (starEach g6 env)) []) Q E s:=by
 rw[wu hn]at h⊢
 refine callWith_of (P:=λh=>(∀b o,C.b.get? b=some o->h.get? b=some o)/\au.tL C f) ?_ (λh x=>x.2 h x.1) ?_
 .rw[List.any_map];exact(d7 _).trans (List.any_eq_false.mpr λJ J=>aO)
 .induction g6 using aQ with
  |cons e r=>exact evalArgs_plain h
  |nil=>
   unfold evalArgs;refine wpAny_bind (m:=spliced []) (wpAny_mono h (λus cu jE=>wpAny_bind (wpAny_pure ?_)) λJ J e=>e)
   refine wpAny_holding ?_;exact wpAny_bind (wpAny_pure (wpAny_bind (wpAny_pure (wpAny_pure jE))))
theorem FP.c'{X:FP K nms sl}{q:Pt K.C}{f:Value}{first:S9}{k:WC->St->Prop}{Q:Value->Shared->Prop}(y:x8 K nms sl args g6)(EX:Ex X.p q)(he:aN K.a args X.b q.m k)(h:∀r vs us,Ex q r->ly r vs us->k vs r.m->au.tL K.C f/\wpAny K.C.I X.A (call f (first++us)) Q E r.s):wpAny K.C.I X.A (callWith pos f first (backTo pos (starEach g6 X.a)) []) Q E q.s:=p7 (y.b _) (y.a (X.I q EX) he λr vs us e V hk=>⟨⟨r.e',(h r vs us e V hk).1⟩,(h r vs us e V hk).2⟩)
theorem RK(H:Hy K)(h1:gP x (K.N.c f)=true)(h2:K.N.b f=true)(h3:fQ nms x=true)(h4:iy x=true)(y:x8 K nms sl args g6):TE K nms sl (.j f args) (.Call (.Name x np) g6 [] pos):=SE.I ⟨λX he KK=>wpAny_Call_NameR (X.e' H h3 h4 (by rw[dW.mp h1,H.B.B];exact H.B.m f h2) (X.c' y (.c' _) he λr vs us E V hk=>⟨(H.b _ _ _ _ hk).elim λmf hf=>Bw H.B hf,wpAny_call (H.a X.i.J V hk ((KK.aB' E).pv))⟩))⟩ (λJ J=>rfl) ⟨λJ J=>rfl,λJ J=>rfl,λJ J=>rfl⟩ (λh=>nomatch h) λJ J J J=>rfl
theorem WR(H:Hy K)(h1:gP x (K.N.d c)=true)(h2:(gX c).isSome=true)(h3:fQ nms x=true)(h4:iy x=true)(y:x8 K nms sl args g6):TE K nms sl (.C c args) (.Call (.Name x np) g6 [] pos):=SE.I ⟨λX he KK=>(bz.mp h2).elim λk hc=>wpAny_Call_NameR (X.e' H h3 h4 (by rw[dW.mp h1,H.B.E];exact H.B.F c k hc) (X.c' y (.c' _) he λr vs us E V hk=>⟨HX (H.B.a c k hc),wpAny_call (Qn H.B.a H.a X.i V hk ((KK.aB' E).pv))⟩))⟩ (λJ J=>rfl) ⟨λJ J=>rfl,λJ J=>rfl,λJ J=>rfl⟩ (λh=>nomatch h) λJ J J J=>rfl
theorem KC(H:Hy K)(b:BI):(K.C.f (yW b)=none/\K.C.g (yW b)=some (Jz b))/\au.tL K.C (Jz b):=by
 induction b
 .exact⟨H.B.x,tV _⟩
 .exact⟨H.B.p,tV _⟩
 .exact⟨H.B.l,qb _⟩
 .exact⟨H.B.n,qb _⟩
theorem cq(H:Hy K){b:BI}(h1:gP x (yW b)=true)(h2:fQ nms x=true)(h3:iy x=true)(y:TE K nms sl e pe):TR K nms sl (.D b e) (.Call (.Name x np) [pe] [] pos):=⟨⟨λX he P F=>wpAny_Call_NameR (X.f' H h2 h3 (by rw[dW.mp h1];exact(KC H b).1) (p7 ((y.o.a [] _).trans rfl) (wpAny_items_cons (y.v.a X he λq v u E V hk=>wpAny_items_nil ⟨⟨q.e',(KC H b).2⟩,U3 X.i.b H.B.h V hk (λr v u e=>P r v u (E.I e)) (F.ay' E)⟩) (y.o.a [] X.a))))⟩,λJ J=>rfl,⟨λJ J=>rfl,λJ J=>rfl,λJ J=>rfl⟩,λh=>(nomatch h),λJ J J J=>rfl⟩

variable{ov:MV}{m:MK}{Q:Value->Shared->Prop}
theorem VM.ai'(x:VM p v u)(e:l9 p.m v=some (.g c as)):vN p c as u:=by
 obtain⟨a,P,ea,o,J,r,J⟩:=x.ac' e (λe=>nomatch e) rfl
 rw[ea];exact IG.ba' r
theorem Nv.bi'(x:Nv p b kvs u):∃a o,u=.ref a/\p.I.get? a=some o/\o.ExactDict:=by
 obtain⟨a,e,J,x⟩:=x
 induction b with
 |false=>obtain⟨J,⟨o,J,J,g,d,J⟩,J⟩:=x;exact⟨a,o,e,g,d⟩
 |true=>obtain⟨J,⟨o,J,J,g,d,J⟩,J⟩:=x;exact⟨a,o,e,g,d⟩
theorem VO{o:MV}{z:Nat×Nat}(x:VM p o u)(h:o.V=some z):∃a items n,u=.ref a/\p.I.get? a=some (b8 items n):=by
 rw[Di h]at x
 obtain⟨a,ea,o⟩:=x;obtain⟨c,e1,r⟩:=p.r.I o;obtain⟨vs,J,e2⟩:=aC.mp e1;subst e2;obtain⟨items,n,g,J⟩:=r;exact⟨a,items,n,ea,g⟩
theorem UT{v:PV}{z:Unit}(h:v.f'=some z):v=.p 0:=by
 induction v using PV.casesOn with
 |p a=>induction a using iV with
  |zero=>rfl
  |succ=>exact nomatch (show none=some z from h)
 |_=>exact nomatch (show none=some z from h)
theorem VM.ag'(x:VM p ov u)(h:JZ ov name p.m=some m)(k1:∀c as,vN p c as u->nT c name as=some m->G)(k2:m=.a->(∃a items n,u=.ref a/\p.I.get? a=some (b8 items n))->G)
  (k3:m=.b->(∃a o,u=.ref a/\p.I.get? a=some o/\o.ExactDict)->G)(k4:m=.c->ov=.a (.p 0)->G):G:=
 lJ h (λh=>lJ h (λh=>lJ h (λh=>lJ h (λh=>by
  obtain⟨c,ec,h⟩:=fC h;exact lJ h (λh=>lJ h (λh=>lJ h (λh=>lJ h (λh=>nomatch h) λd ed h=>k3 (aq h).symm (x.af' (b:=d.1) (kvs:=d.2) (by rw[ec];exact ed)).bi')
   λeK es h=>k2 (aq h).symm (by
    obtain⟨a,i,ea,o,ei,J⟩:=x.ae' (yL es▸ec);obtain⟨c',e1,r⟩:=p.r.I o;obtain rfl:=si (show some c'=_ from e1.symm.trans ei)
    obtain⟨J,items,n,J,g,J⟩:=r;exact⟨a,items,n,ea,g⟩))
   λvs es h=>k2 (aq h).symm (by
    obtain⟨a,P,ea,o,J,⟨items,n,g,J⟩,J⟩:=x.ac' (c:=.a vs) (xJ es▸ec) (λe=>nomatch e) rfl
    exact⟨a,items,n,ea,g⟩))
   λy ey h=>k1 _ _ (x.ai' (yQ ey▸ec)) h)
  λz e h=>k2 (aq h).symm (VO x e))
  λd e h=>k3 (aq h).symm (by
   rw[lZ Ky e]at x
   obtain⟨a,o,cF,ea,J,g,d,J⟩:=x;exact⟨a,o,ea,g.2,d.1⟩))
  λz e h=>k4 (aq h).symm (lZ UT e))
  λy e h=>k1 _ _ (VR.C' (by rw[lZ Gi e]at x;exact x)) h

variable{pl:Sem Bool}
theorem HO{o:Expr}{name:Str}{Uy:Pos}{args:WB}(hb:attributeBase o name env (eval o env)=eval o env)(hn:JC args env)(hl:args.length<29)(Z4:(Uy.endLine==pos.line)=true)(h:wpAny C.I A (eval o env) (λov cu=>∀pl,wpAny C.I A (getMethod ov name pl) (λr ju=>wpAny C.I A (callWith pos r.1 r.2 (backTo pos (starEach args env)) []) Q E ju) E cu) E s):
  wpAny C.I A (eval (.Call (.Attribute o name Uy) args [] pos) env) Q E s:=by
 rw[arm_eval_Call,hb];refine wpAny_bind (wpAny_mono h (λov cu jE=>wpAny_bind (wpAny_standAt ?_)) λJ J e=>e)
 have Z5:methodCallForm (args.length+([]:List Keyword).length) (backTo pos (starEach args env)) (backToKw pos (keywordEach [] env))=true:=by
  unfold methodCallForm;rw[wu hn];simp only[u5,Nat.add_zero,bg,decide_eq_true_eq];refine⟨⟨by simp,rfl⟩,?_⟩
  show args.length+0<30;exact aR hl (by decide)
 have B1:methodCallPos true o env Uy pos=pure pos:=by unfold methodCallPos;simp[Z4]
 unfold methodCall;rw[Z5];refine wpAny_bind (wpAny_holding (wpAny_mono (jE _) (λr ju nY=>?_) λJ J e=>e))
 exact wpAny_bind (wpAny_of_eq B1 nY)
abbrev IS(X:FP K nms sl)(q:Pt K.C)(u:Value)(name:Nat)(pl:Sem Bool)(pos:Pos)(g6:WB)(Q E:Value->Shared->Prop):Prop:=wpAny K.C.I X.A (getMethod u (K.C.c name) pl) (λr ju=>wpAny K.C.I X.A (callWith pos r.1 r.2 (backTo pos (starEach g6 X.a)) []) Q E ju) E q.s
variable{X:FP K nms sl}{q:Pt K.C}{k:MV->St->Prop}
theorem rZ{id T:String}{ob:Obj}{kk:WC->St->Prop}(EX:Ex X.p q)(z:x8 K nms sl args g6)(he:aN K.a args X.b q.m kk)(g:q.I.get? a=some ob)(hcl:ob.cls=.type T)(hdi:ob.dict=none)(pa:PlainAttrs T)(Ed:Slot T (K.C.c name) id)(ty:typeOf (.builtin id)=pure (.type "method_descriptor"))(key:∀r vs us,Ex q r->ly r vs us->kk vs r.m->wpAny K.C.I X.A (call (.builtin id) (.ref a::us)) Q E r.s):IS X q (.ref a) name pl pos g6 Q E:=getMethod_builtin ⟨ob,g,hcl⟩ pa Ed ty (λb hb=>by cases hb;exact⟨ob,g,hdi⟩) (X.c' z EX he λr vs us e V hk=>⟨tV id,key r vs us e V hk⟩)
theorem HP(h:nT c name as=some m):iE name as=none/\∃k f,gX c=some k/\k.b.lookup name=some f/\m=.d f:=by
 unfold nT at h
 induction h1:iE name as with
 |some x=>rw[h1]at h;exact nn h
 |none=>
  rw[h1]at h
  obtain⟨k,e1,h⟩:=fC h;obtain⟨f,e2,e3⟩:=aC.mp h;exact⟨rfl,k,f,e1,e2,e3.symm⟩
theorem QL(H:Hy K)(EX:Ex X.p q)(V:VM q ov u)(y:vN q c as u)(hm:nT c name as=some m)(z:x8 K nms sl args g6)(he:aN K.a args X.b q.m λvs s=>BN K.a ov name m vs s k)(KK:mF q k Q):IS X q u name pl pos g6 Q E:=by
 obtain⟨x7,kc,f,hck,hlk,em⟩:=HP hm;subst em;have K':=H.B.a c kc hck;obtain⟨a,dx,es,n,ea,g1,g2,ar⟩:=y;subst ea;have Ju:=K'.l name f hlk;have hgl:getL (K.C.c name) es=some none:=(ar.aU' H.B.b Ju.1).elim (λx=>x.2) λ⟨v',u,q1,_⟩=>nomatch q1.symm.trans x7
 refine method_fn K'.I (ox:=instObj (K.C.a c) dx) (od:=some (dictOf es n)) ⟨g1,rfl,rfl,g2⟩ (plainGet_of K'.b).1 (plainGet_of K'.b).2 Ju.2.1 (beq_iff_eq.mp Ju.2.2) (by show(lookIn (K.C.c name) (dictOf es n)).map _=_;rw[lookIn_dict,hgl];rfl) (X.c' z EX he λr vs us E2 V2 hk=>⟨(H.b _ _ _ _ hk).elim λmf hf=>Bw H.B hf,wpAny_call (H.a X.i.J (.bc' (V.ab' (D:=Ah) E2) V2) hk (KK.aB' E2).pv)⟩)
theorem AM{a:Bool}(h:(a||b)=true):a=true\/b=true:=by induction a with
 |true=>exact .inl rfl
 |false=>exact .inr h
theorem A2{a b:PV}(V:ly p vs us)(e:vs=[.a a,.a b]):∃ua ub,us=[ua,ub]/\VR C p.W p.I a ua/\VR C p.W p.I b ub:=by subst e;obtain⟨ua,J,e1,va,ub,J,e2,vb,e3⟩:=V;subst e3;exact⟨ua,ub,by rw[e1,e2],va,vb⟩
theorem cf{o:MV}(V:ly p vs us)(h:DG o 10 vs st k)(x:∀v u,us=[u]->VM p v u->rG o v st (λs=>k (.a .h) s)->G):G:=by
 induction vs using aQ with
 |nil=>exact(show False from h).elim
 |cons v vs=>induction vs using aQ with
  |nil=>obtain⟨u,r,e,a,b⟩:=V;exact x v u (e.trans (congrArg _ b)) a h
  |cons=>exact(show False from h).elim
theorem ZH{o:MV}{vs:WC}(V:ly p vs us)(h:DG o 37 vs st k)(x:us=[]->(ob ((l9 st o).bind ah.J) λvs=>ob vs.getLast? λv=>k (.a v) (pA st o (.a vs.dropLast)))->G):G:=by
 induction vs using aQ with
 |nil=>exact x V h
 |cons v vs=>exact(show False from h).elim
theorem LN(H:Hy K)(EX:Ex X.p q)(V:VM q ov u)(y:∃a items n,u=.ref a/\q.I.get? a=some (b8 items n))(ho:NI name .a=true)(z:x8 K nms sl args g6)(he:aN K.a args X.b q.m λvs s=>DG ov name vs s k)(KK:mF q k Q):IS X q u name pl pos g6 Q E:=by
 obtain⟨a,items,n,ea,g⟩:=y;subst ea;rcases AM ho with h1|h1<;>obtain rfl:=bM h1
 .refine rZ EX z he g rfl rfl F.plainAttrs_list (by rw[H.B.e.1];exact F.slot_list_append) F.type_list_append λr vs us E2 V2 hk=>cf V2 hk λv u1 e1 va hk=>e1▸Ei (V.ab' E2) va hk (KK.aB' E2)
 .refine rZ EX z he g rfl rfl F.plainAttrs_list (by rw[H.B.e.2.1];exact F.slot_list_pop) F.type_list_pop λr vs us E2 V2 hk=>ZH V2 hk λe1 hk=>e1▸Qm (V.ab' E2) hk (KK.aB' E2)
theorem LO(H:Hy K)(EX:Ex X.p q)(V:VM q ov u)(y:∃a o,u=.ref a/\q.I.get? a=some o/\o.ExactDict)(ho:NI name .b=true)(z:x8 K nms sl args g6)(he:aN K.a args X.b q.m λvs s=>B4 name vs λa b=>ob (B7 s ov) λd=>gb (iQ d.1 a) (k (.a ((bA a d.2).getD b)) s))(KK:mF q k Q):IS X q u name pl pos g6 Q E:=by
 obtain⟨a,o,ea,g,d⟩:=y;subst ea;obtain rfl:=bM (show Nat.beq name 21=true from ho)
 refine rZ EX z he g d.1 d.2.1 F.plainAttrs_dict (by rw[H.B.e.2.2];exact qK) F.type_dict_get λr vs us E2 V2 hk=>Ko (us:=us) hk λi b e hk J=>dh hk λd e1 hk=>fj hk λe2 hk=>?_
 obtain⟨ua,ub,e3,va,vb⟩:=A2 V2 e;rw[e3];exact Le X.i.I H.B.h ((V.ab' E2).dc e1) va vb e2 hk (KK.aB' E2).pv
theorem LM(H:Hy K)(EX:Ex X.p q)(V:VM q (.a (.p 0)) u)(ho:NI name .c=true)(z:x8 K nms sl args g6)(he:aN K.a args X.b q.m λvs s=>B4 name vs λa b=>sU a b λv=>k (.a v) s)(KK:mF q k Q):IS X q u name pl pos g6 Q E:=by
 obtain rfl:=(show 0=0/\u=.ref K.C.i from V).2
 obtain rfl:=bM (show Nat.beq name 21=true from ho)
 obtain⟨AC,f,mf,ff⟩:=H.B.D;obtain⟨o,es,ep,g,dd,rr⟩:=mf;refine rZ EX z he (q.e' _ _ g) dd.1 dd.2.1 F.plainAttrs_dict (by rw[H.B.e.2.2];exact qK) F.type_dict_get λr vs us E2 V2 hk=>Ko (us:=us) hk λi b e hk J=>?_
 obtain⟨ua,ub,e3,va,vb⟩:=A2 V2 e;rw[e3];have Yf:r.I.MapOf (intKind K.C.d K.C.w) K.C.i f:=⟨o,es,ep,r.e' _ _ g,dd,rr⟩;refine pB hk λj ej hk=>?_
 subst ej;obtain⟨t,et⟩:=va;rw[et];refine call_meetsIn qK Yf.typeIs F.entry_dict_get (F.args_dict_get_3 _ _ _) (meets_dict_get_default (intKind K.C.d K.C.w) K.C.i (nV j t) AC ub) ⟨_,Yf,?_⟩;rcases ff j b _ (show sU (.d j) b _ from hk)with⟨q1,q2⟩|⟨j',t',q1,q2⟩
 .rw[q2];exact(KK.aB' E2).pv.aJ' q1 _ vb
 .rw[q2];exact(KK.aB' E2).pv.aJ' q1 _ ⟨t',rfl⟩
theorem RG(H:Hy K){o:ME}{o':Expr}{ap:Pos}(h1:gP x (K.N.a name)=true)(h2:nS o'=true)(h3:(ap.endLine==pos.line)=true)(h4:Nat.blt g6.length 29=true)(y:TE K nms sl o o')(z:x8 K nms sl args g6):TE K nms sl (.s o name args) (.Call (.Attribute o' x ap) g6 [] pos):=SE.I ⟨λX he KK=>by
 obtain rfl:=dW.mp h1;rw[H.B.g];exact HO (y.b h2 _ _) (z.b _) (Nat.blt_eq.mp h4) h3 (y.v.a X he λq v u E V hk pl=>dh hk λm hm hk=>fj hk λho hk=>V.ag' hm (λc as iv hm=>QL H E V iv hm z hk (KK.aB' E))
  (λem lo=>by subst em;exact LN H E V lo ho z hk (KK.aB' E)) (λem lo=>by subst em;exact LO H E V lo ho z hk (KK.aB' E)) λem eo=>by subst em eo;exact LM H E V ho z hk (KK.aB' E))⟩ (λJ J=>rfl) ⟨λJ J=>rfl,λJ J=>rfl,λJ J=>rfl⟩ (λh=>nomatch h) λJ J J J=>rfl

variable{q:Pt C}
theorem QW{b:Addr}{l:Nat}(ob:p.W.d b=some (.b l j,false))(pa:lD p.W p.m cU (.b l j) .d):∃q:Pt C,q.s=p.s/\q.m=cU/\Ex p q/\q.W.d b=none/\g9 p.W p.I q.W q.I:=by
 have ow:∀{c k},k≠(.b l j,false)->p.W.d c=some k->(p.W.I b none).d c=some k:=λhk e=>(Wd.J _ _ λz=>hk (by rw[z,ob]at e;exact(aq e).symm)).trans e
 have bk:∀{c k},(p.W.I b none).d c=some k->c≠b/\p.W.d c=some k:=λe=>(Wd.V e).elim (λz=>nomatch z.2) id
 have KK:g9 p.W p.I (p.W.I b none) p.I:=⟨λc o x=>⟨yY ob x,x.2⟩,λc i e=>ow (λz=>nomatch z) e,λc i e=>⟨ow (λz=>nomatch z) e,rfl⟩⟩
 have R:w4 C (p.W.I b none) p.I cU:=p.r.O KK (λc J J e=>ow (λz=>nomatch z) e) (λc d k x y=>p.r.f c d k (bk x).2 (bk y).2) (λc k e=>p.r.d c k (bk e).2) (λc t x e=>p.r.g c t x (bk e).2) λc P x e=>by
  by_cases hP:P=.b l j
  .exact .inr ⟨.d,hP▸pa.a,λJ=>trivial⟩
  .exact .inl ⟨(bk e).2,λd x f=>⟨ow (λz=>hP (congrArg Prod.fst z)) f,rfl⟩,pa.b P hP⟩
 refine⟨⟨_,p.s,cU,R⟩,rfl,rfl,⟨rfl,KK.b,λc k e=>?_,λJ J J J=>rfl,λJ J J J=>rfl,λk g=>.inl (pa.e k g),pa.d,λJ J x=>x⟩,Wd.O ..,KK⟩
 by_cases hk:k=(.b l j,false)
 .rw[hk];exact .inr (.inl pa.a)
 .exact .inl (ow hk e)
theorem mF.aG'(KK:mF p k Q)(V:VM p v u)(h:zY true v p.m k):Q u p.s:=by
 induction v with
 |a v=>exact KK p (.a v) u (.c' _) V h
 |e=>exact(show False from h).elim
 |b d i=>
  refine dh (show ob (l9 p.m (.b d i)) λc=>ob (B5 c) λw=>k (.a w) (pA p.m (.b d i) .d)from h) λc ec h=>dh h λw ew h=>?_
  have hc:c≠ .d:=λz=>by rw[z]at ew;exact nn ew
  obtain⟨a,ea,oa,r⟩:=V.ad' ec hc;obtain⟨q,e1,e2,E,o,X⟩:=QW oa (zy (c':=.d) ec hc);rw[ea,<-e1];refine KK q (.a w) (.ref a) E ?_ (e2▸h);have eh:q.I=p.I:=congrArg Shared.heap e1;show VR C q.W q.I w (.ref a);rw[eh]at X⊢
  exact Gp X o (p.v' oa) r ew
theorem RH(y:TE K nms sl e (.Name x pos)):TE K nms sl (.m true e) (.Name x pos):=SE.I ⟨λX he KK=>y.v.a X he λq v u E V hk=>(KK.aB' E).aG' V hk⟩ (λJ J=>rfl) y.o y.b y.s
theorem HK(h:Heap)(o:Obj):(h.push o).get? (h.objs.size+1)=none:=by rw[<-kY h o];exact cJ _
theorem HF(W:Wd)(pm:V6)(rg:V5)(ni:S1):aW W ⟨pm++[.f [[]]],rg,ni⟩ (.f pm.length)=some (.f [[]])/\aW W ⟨pm++[.f [[]]],rg,ni⟩ (.e pm.length 0)=some (.a [])/\aW W ⟨pm,rg,ni⟩ (.f pm.length)=none/\aW W ⟨pm,rg,ni⟩ (.e pm.length 0)=none:=by
 have e:(pm++[ah.f [[]]])[pm.length]?=some (.f [[]]):=bu;have n:pm[pm.length]?=none:=aV (aH _);refine⟨e,?_,n,?_⟩
 .show(((pm++[ah.f [[]]])[pm.length]?.bind ah.I).bind (·[0]?)).map ah.a=_;rw[e];rfl
 .show((pm[pm.length]?.bind ah.I).bind (·[0]?)).map ah.a=_;rw[n];rfl
theorem mF.aE'{a1 a2:Addr}(KK:mF p k Q)(E:Ex p q)(n1:p.I.get? a1=none)(n2:p.I.get? a2=none)(ne:a2≠a1)(o1:q.W.d a1=some (.d a1,false))(o2:q.W.d a2=some (.d a2,false))(g1:q.I.get? a1=some (b8 #[] 0))(g2:q.I.get? a2=some (b8 #[.ref a1] 0))(h:k (.a (.e q.m.b.length)) (q.m.J (· ++[.f [[]]]))):Q (.ref a2) q.s:=by
 obtain⟨W,s,⟨pm,rg,ni⟩,rel⟩:=q;obtain⟨c1,c2,c3,c4⟩:=HF W pm rg ni
 let q3:=Pt.o' ⟨W,s,⟨pm,rg,ni⟩,rel⟩ a1 o1 (some (.e pm.length 0,false)) W.f ⟨pm++[.f [[]]],rg,ni⟩ (λJ J J J=>rfl) (λb P x e=>by obtain⟨rfl,rfl⟩:=u7 e;exact rel.V c4 b) (λt x e=>by cases e) (λP x e=>by obtain⟨rfl,rfl⟩:=u7 e;exact⟨_,c2,λJ=>⟨#[],0,g1,rfl,bI _⟩⟩) λb P x e c hc=>⟨c,CP hc,.inl rfl⟩
 have E3:Ex p q3:=Pt.z' E n1 o1 _ _ _ _ _ _ _ _ (λJ g=>g) rfl
 have w1:q3.W.d a1=some (.e pm.length 0,false):=Wd.O ..;have w2:q3.W.d a2=some (.d a2,false):=(Wd.J _ _ ne).trans o2
 let q4:=Pt.o' q3 a2 w2 (some (.f pm.length,false)) W.f q3.m (λJ J J J=>rfl) (λb P x e f=>by
  obtain⟨rfl,rfl⟩:=u7 e;exact(Wd.V f).elim (λz=>nomatch z.2) λz=>rel.V c3 b z.2) (λt x e=>by cases e) (λP x e=>by
  obtain⟨rfl,rfl⟩:=u7 e;refine⟨_,c1,λJ=>⟨pm.length,#[.ref a1],0,rfl,g2,rfl,show 1<=100000 by decide,λj u e=>?_⟩⟩
  induction j using iV with
  |zero=>obtain rfl:=si e;exact⟨a1,rfl,(Wd.J _ _ ne.symm).trans w1⟩
  |succ=>exact nn e) λb P x e c hc=>⟨c,hc,.inl rfl⟩
 have E4:Ex p q4:=Pt.z' E3 n2 w2 _ _ _ _ _ _ _ _ (λJ g=>g) rfl
 exact KK q4 (.a (.e pm.length)) (.ref a2) E4 ⟨a2,rfl,Wd.O ..⟩ h
theorem mF.aF'(KK:mF p k Q)(h:k (.a (.e p.m.b.length)) (p.m.J (· ++[.f [[]]]))):Q (.ref (p.I.push (b8 #[] 0)).objs.size) {p.s with heap:=(p.I.push (b8 #[] 0)).push (b8 #[.ref p.I.objs.size] 0)}:=by
 rw[kY];have n1:=cJ p.I;have n2:(p.I.push (b8 #[] 0)).get? (p.I.objs.size+1)=none:=HK ..;have g1:(p.I.push (b8 #[] 0)).get? p.I.objs.size=some (b8 #[] 0):=bq _ rfl;have g2:((p.I.push (b8 #[] 0)).push (b8 #[.ref p.I.objs.size] 0)).get? (p.I.objs.size+1)=some (b8 #[.ref p.I.objs.size] 0):=by have:=bq (p.I.push (b8 #[] 0)) (o:=b8 #[.ref p.I.objs.size] 0) rfl;rwa [kY]at this
 have ne:=Nat.succ_ne_self p.I.objs.size
 let p1:=p.d' (p.I.push (b8 #[] 0)) p.s.toks (dY.aj' _ _) p.I.objs.size n1 (bS g1)
 exact KK.aE' (q:=p1.d' _ p.s.toks (dY.aj' _ _) (p.I.objs.size+1) n2 (bS g2)) ((p.f' ..).I (p1.f' ..)) n1 ((dY.aj' p.I _).al' n2) ne ((Wd.J _ _ ne.symm).trans (Wd.O ..)) (Wd.O ..) (dU _ g1) g2 h
theorem MX{p1:Pos}:TE K nms sl .N (.List [.List [] p1] p2):=SE.I ⟨λX he KK=>wpAny_List (wpAny_items_cons (wpAny_List (wpAny_items_nil ⟨bI _,wpAny_items_nil ⟨gM (show 1<=100000 by decide),KK.aF' he⟩⟩)) rfl)⟩ (λJ J=>rfl) ⟨λJ J=>rfl,λJ J=>rfl,λJ J=>rfl⟩ (λJ J J=>rfl) λJ J J J=>rfl

theorem GU{k:Int}(h:(cF.map (·.1)).Nodup):((stored cF k u).map (·.1)).Nodup:=by
 induction cF with
 |nil=>exact cD.mpr ⟨gm,.nil⟩
 |cons x r ih=>
  obtain⟨i,w⟩:=x;obtain⟨n1,n2⟩:=cD.mp h;rw[uw n1];by_cases z:i=k
  .rw[if_pos z];exact h
  .rw[if_neg z];refine cD.mpr ⟨λm=>?_,ih n2⟩
   obtain⟨y,hy,e⟩:=bF.mp m;unfold stored at hy
   by_cases c:r.any (λkv=>kv.1=k)=true
   .rw[if_pos c]at hy
    obtain⟨y0,h0,e0⟩:=bF.mp hy;refine n1 (bF.mpr ⟨y0,h0,?_⟩);by_cases w:y0.1=k
    .rw[if_pos w]at e0;rw[<-e0]at e;exact absurd ((show y0.1=i from e).symm.trans w) z
    .rw[if_neg w]at e0;rw[e0];exact e
   .rw[if_neg c]at hy
    rcases aS.mp hy with hy|hy
    .exact n1 (bF.mpr ⟨y,hy,e⟩)
    .rw[aB.mp hy]at e;exact z e.symm
def ky(p:Pt C)(kvs:S8)(us:aax):Prop:=bR C p.W p.I (kvs.map (·.1)) (us.map (·.1))/\bR C p.W p.I (kvs.map (·.2)) (us.map (·.2))
theorem LY{v:PV}(h:isInt v=true):∃i,v=.d i:=by induction v using PV.casesOn<;>first|exact⟨_,rfl⟩|exact nomatch (show false=true from h)
theorem bR.M'{v:PV}{vs:S3}(x:bR C W h (v::vs) (u::us)):VR C W h v u/\bR C W h vs us:=by obtain⟨a,r,e,x,y⟩:=x;obtain⟨e1,e2⟩:=fF e;exact⟨e1▸x,e2▸y⟩
theorem ky.bj':∀{us:aax},ky p kvs us->(kvs.all λe=>isInt e.1)=true->∃cF,Carries (intKind C.d C.w) us cF/\lU C p.W p.I PV.d kvs cF:=by
 induction kvs with
 |nil=>
  intro us x J
  induction us using aQ with
  |nil=>exact⟨[],trivial,rfl,rfl⟩
  |cons=>exact nomatch x.1
 |cons e kvs ih=>
  intro us x hi;obtain⟨h1,h2⟩:=ak.mp hi
  induction us using aQ with
  |nil=>obtain⟨J,J,e,J⟩:=x.1;exact nomatch e
  |cons w us=>
   obtain⟨cF,ca,kv⟩:=ih ⟨x.1.M'.2,x.2.M'.2⟩ h2;obtain⟨j,ej⟩:=LY h1;have ka:VR C p.W p.I e.1 w.1:=x.1.M'.1;rw[ej]at ka
   obtain⟨t,et⟩:=ka;refine⟨(j,w.2)::cF,⟨(congrArg _ et).trans (nV j t),rfl,ca⟩,?_⟩;have:=lU.aq' (enc:=PV.d) (i:=j) x.2.M'.1 kv;rw[<-ej]at this
   exact this
theorem Q4(x:lU C W h PV.d kvs cF):∀{acc:S8}{xj:aam},lU C W h PV.d acc xj->(xj.map (·.1)).Nodup->lU C W h PV.d (kvs.foldl (λ(d:S8)(e:PV×PV)=>cY e.1 e.2 d) acc) (merged xj cF):=x.au' (P:=λkvs cF=>∀{acc:S8}{xj:aam},lU C W h PV.d acc xj->(xj.map (·.1)).Nodup->lU C W h PV.d (kvs.foldl (λ(d:S8)(e:PV×PV)=>cY e.1 e.2 d) acc) (merged xj cF)) (λy J=>y) λi v u kvs cF a J ih{acc xj} y n=>ih (y.ar' a n λe J v=>tU i e.1 v) (GU n)
theorem BD:∀(kvs acc:S8),(kvs.foldl (λ(d:S8)(e:PV×PV)=>cY e.1 e.2 d) acc).length<=acc.length+kvs.length
 |[],acc=>aH _
 |e::r,acc=>aA (BD r (cY e.1 e.2 acc)) (aA (cN (wh e.1 e.2 acc) _) (bZ (Nat.succ_add_eq_add_succ ..)))
noncomputable def Xf(env:Env)(pos:Pos):aas->WB->List (Sem Value×Sem Value)
 |some k::ks,v::vs=>(eval k env,do let x<-eval v env;standAt pos;pure x)::Xf env pos ks vs
 |_,_=>[]
structure Nl(K:Kt)(nms:Nm)(sl:Sl)(ps:Nq)(ks:aas)(vs:WB):Prop where
 a:∀(env:Env)(pos:Pos),((evalEachOpt ks env).zip ((evalEach vs env).map λv=>do let x<-v;standAt pos;pure x))=(Xf env pos ks vs).map (λp=>(some p.1,p.2))/\(Xf env pos ks vs).length=ks.length
 b:∀{pos:Pos}{k:S8->St->Prop}{Q:aax->Shared->Prop}{E:Value->Shared->Prop}(x:FP K nms sl),aP K.a ps x.b x.p.m k->(∀q kvs us,Ex x.p q->ky q kvs us->k kvs q.m->Q us q.s)->x.O (evalPairs (Xf x.a pos ks vs)) Q E
theorem RB:Nl K nms sl .a [] []:=⟨λJ J=>⟨rfl,rfl⟩,λX he KK=>evalPairs_nil (KK X.p [] [] (.c' _) ⟨rfl,rfl⟩ he)⟩
theorem IA{x:PV}(e:v=.a x)(V:VM p v u):VR C p.W p.I x u:=by subst e;exact V
theorem MT{k v:ME}{ps:Nq}{k' v':Expr}{ks:aas}{vs:WB}(x:TE K nms sl k k')(y:TE K nms sl v v')(z:Nl K nms sl ps ks vs):Nl K nms sl (.b k v ps) (some k'::ks) (v'::vs):=⟨λenv pos=>by
  obtain⟨a,b⟩:=z.a env pos;refine⟨?_,congrArg Nat.succ b⟩;show _=(_,_)::(Xf env pos ks vs).map _;rw[<-a];rfl,λX he KK=>evalPairs_cons (x.v.a X he λq kv ku E V hk=>iS hk λkp e1 hk=>wpAny_bind (y.v.a (X.I q E) hk λq2 vv vu E2 V2 hk=>iS hk λvp e2 hk=>wpAny_bind (wpAny_standAt (wpAny_pure
   (z.b (X.I q2 (E.I E2)) hk λq3 ps us E3 V3 hk=>KK q3 ((kp,vp)::ps) ((ku,vu)::us) (E.I (E2.I E3)) ⟨.I' (((IA e1 V).v' E2).v' E3) V3.1,.I' ((IA e2 V2).v' E3) V3.2⟩ hk)))))⟩
theorem w6.aA'{tk:Nat}(F:w6 p k Q)(E:Ex p q)(na:p.I.get? a=none)(oa:q.W.d a=some (.d a,false))(hs:Heap.SameBut a q.I h')(d:h'.DictOf (intKind C.d C.w) a cF)(x:lU C q.W q.I PV.d kvs cF)(hl:kvs.length<=100000)(hk:jT (.e false kvs) q.m k):Q (.ref a) {q.s with heap:=h',toks:=tk}:=by
 obtain⟨o,g,dd⟩:=tM.an' d;have E2:eY (λb=>b=a) nj q (q.i' h' tk a oa hs (bS g)):=q.n' _ _ _ _ _ _ rfl
 exact F (q.i' h' tk a oa hs (bS g)) (.e false kvs) a ((E.e'.I E2).V (λb e=>.inr (e▸na)) λJ f=>f) na ⟨oa,⟨o,cF,g,dd,x.1,bR.G' E2 x.2,x.aw'▸hl⟩,rfl,rfl⟩ hk
theorem MR:TR K nms sl (.w .a) (.Dict [] [] pos):=⟨⟨λX he P F=>wpAny_Dict_empty (by have g:(X.p.I.push (dictOf [] 0)).get? X.p.I.objs.size=some (dictOf [] 0):=bq _ rfl;exact F (X.p.d' _ X.p.s.toks (dY.aj' _ _) X.p.I.objs.size (cJ _) (bS g)) (.e false []) _ (X.p.f' ..) (cJ _) ⟨Wd.O ..,⟨_,[],g,⟨⟨rfl,rfl,rfl⟩,#[],0,rfl,(λe he=>nomatch he),.nil,.nil⟩,rfl,rfl,bI _⟩,rfl,rfl⟩ he)⟩,λJ J=>rfl,⟨λJ J=>rfl,λJ J=>rfl,λJ J=>rfl⟩,λJ J J=>rfl,λJ J J J=>rfl⟩
theorem RA{ps:Nq}{k' v':Expr}{ks:aas}{vs:WB}(z:Nl K nms sl ps (some k'::ks) (v'::vs))(h2:Nat.blt ks.length 15=true):TR K nms sl (.w ps) (.Dict (some k'::ks) (v'::vs) pos):=⟨⟨λX he P F=>by
  obtain⟨z1,z2⟩:=z.a X.a pos;refine wpAny_Dict_pairs (knd:=intKind K.C.d K.C.w) z1 (λh=>nomatch h) (by rw[z2];exact Nat.blt_eq.mp h2) ?_
  have g:(X.p.I.push (dictOf [] 0)).get? X.p.I.objs.size=some (dictOf [] 0):=bq _ rfl;have na:=cJ X.p.I;have E0:Ex X.p (X.p.d' _ X.p.s.toks (dY.aj' _ _) X.p.I.objs.size na (bS g)):=X.p.f' ..;refine z.b (X.I _ E0) he λq kvs us E V hk=>fj hk λhi hk=>?_
  obtain⟨hi,hl⟩:=ak.mp hi;have oa:q.W.d X.p.I.objs.size=some (.d X.p.I.objs.size,false):=E.O (Wd.O ..) (λJ J=>nofun) λJ=>id
  have ga:q.I.get? X.p.I.objs.size=some (dictOf [] 0):=(E.c _ _ (Wd.O ..) id).trans g;obtain⟨cF,ca,kv⟩:=V.bj' hi;refine⟨cF,ca,⟨_,#[],0,ga,⟨rfl,rfl,rfl⟩,rfl,(λe he=>nomatch he),.nil,.nil⟩,λh' dd hs=>?_⟩
  exact F.aA' (E0.I E) na oa hs dd (Q4 (acc:=[]) (xj:=[]) kv ⟨rfl,rfl⟩ .nil) (aA (BD kvs []) (by rw[u5,gc];exact aA (of_decide_eq_true hl) (by decide))) hk⟩,λJ J=>rfl,⟨λJ J=>rfl,λJ J=>rfl,λJ J=>rfl⟩,λJ J J=>rfl,λJ J J J=>rfl⟩

noncomputable def Pt.p'(p:Pt C)(h':Heap)(tk:Nat)(a:Addr)(ha:p.W.d a=some (.d a,false))(hx:Heap.ExtBut a p.I h'):Pt C:=
 ⟨p.W.I a none,{p.s with heap:=h',toks:=tk},p.m,by
  have bk:∀{c k},(p.W.I a none).d c=some k->c≠a/\p.W.d c=some k:=λe=>(Wd.V e).elim (λz=>nomatch z.2) id
  have sm:∀{c k},c≠a->p.W.d c=some k->h'.get? c=p.I.get? c:=λ{c k} n e=>by obtain⟨o,g⟩:=bz.mp (p.r.d c k e);rw[g];exact hx c o n g
  have ow:∀{c P x},P≠ .d a->p.W.d c=some (P,x)->(p.W.I a none).d c=some (P,x):=λhP e=>(Wd.J _ _ λz=>hP (by rw[z,ha]at e;exact(congrArg Prod.fst (aq e)).symm)).trans e
  refine p.r.O ⟨λc o x=>⟨yY ha x,hx c o (λz=>by have:=x.1;rw[z,ha]at this;exact sn this) x.2⟩,λc i e=>ow nofun e,λc i e=>⟨ow nofun e,rfl⟩⟩ (λc J J e=>ow nofun e) (λc d k x y=>p.r.f c d k (bk x).2 (bk y).2) (λc k e=>?_) (λc t x e=>p.r.g c t x (bk e).2) λc P x e=>.inl ⟨(bk e).2,λd y f=>?_,nq⟩
  .exact(show(h'.get? c).isSome=true from(sm (bk e).1 (bk e).2).symm▸p.r.d c k (bk e).2)
  .have hP:P≠ .d a:=λz=>(bk e).1 (p.r.g c a x (z▸(bk e).2))
   exact⟨ow hP f,sm (λz=>hP (by rw[z,ha]at f;exact(congrArg Prod.fst (aq f)).symm)) f⟩⟩
theorem Pt.x'(p:Pt C)(h':Heap)(tk:Nat)(a:Addr)(ha hx):eY (λb=>b=a) B p (p.p' h' tk a ha hx):=by
 have gt:∀{c},c≠a->eE p.I c->h'.get? c=p.I.get? c:=λ{c} n l=>by obtain⟨o,g⟩:=bz.mp l;rw[g];exact hx c o n g
 refine⟨rfl,λc o x=>⟨yY ha x,hx c o (λz=>by have:=x.1;rw[z,ha]at this;exact sn this) x.2⟩,λc k e=>?_,λc t e d=>gt d (p.r.d c _ e),λJ J J J=>rfl,λJ x=>.inl x,rfl,λc d l=>(show(h'.get? c).isSome=true from(gt d l).symm▸l)⟩
 by_cases z:c=a
 .exact .inr (.inr (.inr ⟨⟨a,by rw[z,ha]at e;exact(congrArg Prod.fst (aq e)).symm⟩,z⟩))
 .exact .inl ((Wd.J _ _ z).trans e)
def Z2(p:Pt C)(a:Addr)(k:Nat)(vs:S3):Prop:=∃t items n,(∃o,qe p.W p.I t o/\(o=jH items 0/\p.I.IsTupleIter a t k\/o=b8 items n/\p.I.IsListIter a t k))/\bR C p.W p.I vs items.toList
def ZZ(p:Pt C)(a:Addr)(k:Nat)(vs:S3):Prop:=∃t items n,qe p.W p.I t (b8 items n)/\p.I.IsRevIter a t ((vs.length:Int)-1-k)/\bR C p.W p.I vs.reverse items.toList/\k<=vs.length
def Z1(p:Pt C)(a:Addr)(k:Nat)(v:MV):Prop:=∃l,VM p v (.ref l)/\p.I.IsListIter a l k
def w5(p:Pt C)(a:Addr)(k:Nat)(it:It):Prop:=p.W.d a=some (.d a,false)/\It.casesOn it (λvs=>Z2 p a k vs\/ZZ p a k vs) (Z1 p a k) λm=>IsRangeIter p.I a (k:Int) ((m:Int)-k) 1/\k<=m
theorem w5.bk'{k:Nat}(x:w5 p a k it)(X:eY D nj p q)(hd:¬D a):w5 q a k it:=by
 obtain⟨o,x⟩:=x;have e:=X.c a a o hd;refine⟨X.O o (λJ J=>nofun) λJ=>hd,?_⟩
 induction it with
 |a vs=>
  refine x.imp (λ⟨t,items,n,⟨ob,i,z⟩,r⟩=>⟨t,items,n,⟨ob,X.j _ _ i,z.imp (λz=>⟨z.1,?_⟩) λz=>⟨z.1,?_⟩⟩,r.G' X⟩) λ⟨t,items,n,i,z,r,hk⟩=>⟨t,items,n,X.j _ _ i,?_,r.G' X,hk⟩
  .obtain⟨J,ob,g,w⟩:=z;exact⟨ob,e.trans g,w⟩
  .obtain⟨J,ob,g,w⟩:=z;exact⟨ob,e.trans g,w⟩
  .obtain⟨ob,g,w⟩:=z;exact⟨ob,e.trans g,w⟩
 |b v=>obtain⟨l,V,ob,g,w⟩:=x;exact⟨l,V.ab' X,ob,e.trans g,w⟩
 |c m=>exact⟨e.trans x.1,x.2⟩
def Nx(p:Pt C)(a:Addr)(k:Nat)(it:It)(r:aaf)(Q:V9->Shared->Prop):Prop:=∀q o,eY (λb=>b=a) nj p q->q.m=p.m->(∀v,r=some v->∃u,o=some u/\VR C q.W q.I v u/\w5 q a (k+1) it)->(r=none->o=none)->Q o q.s
theorem Nx.bn'{k:Nat}{Q:V9->Shared->Prop}(ha:p.W.d a=some (.d a,false))(N:Nx p a k it none Q)(h':Heap)(tk:Nat)(hx:Heap.ExtBut a p.I h'):Q none {p.s with heap:=h',toks:=tk}:=N (p.p' h' tk a ha hx) none (p.x' ..) rfl (λv e=>nomatch e) λJ=>rfl
theorem Nx.bm'{k:Nat}{v:PV}{Q:V9->Shared->Prop}(ha:p.W.d a=some (.d a,false))(N:Nx p a k it (some v) Q)(h':Heap)(tk:Nat)(hs:Heap.SameBut a p.I h')(ld:eE h' a)(V:VR C p.W p.I v u)(x:∀q:Pt C,q.W=p.W->q.I=h'->eY (λb=>b=a) nj p q->w5 q a (k+1) it):Q (some u) {p.s with heap:=h',toks:=tk}:=
 have E:eY (λb=>b=a) nj p (p.i' h' tk a ha hs ld):=p.n' _ _ _ _ _ _ rfl
 N (p.i' h' tk a ha hs ld) (some u) E rfl (λw e=>by obtain rfl:=aq e;exact⟨u,rfl,VR.v' E V,x _ rfl rfl E⟩) λe=>nomatch e

variable{t:Addr}{k:Nat}{vs:S3}{Q:V9->Shared->Prop}
theorem Ux{M:aaf->V9->Prop}(r:bR C W h vs items.toList)(k:Nat)(k0:items[k]?=none->M none none)(k1:∀v u,items[k]?=some u->VR C W h v u->M (some v) (some u)):M vs[k]? items[k]? :=by
 induction z:vs[k]? with
 |none=>have:items[k]?=none:=Array.getElem?_eq_none (r.F'▸List.getElem?_eq_none_iff.mp z);rw[this];exact k0 this
 |some v=>
  obtain⟨u,q1,q2⟩:=r.L' z;rw[cg]at q1
  rw[q1];exact k1 v u q1 q2
theorem LG(hh:A.handled=none)(ha:p.W.d a=some (.d a,false))(i:qe p.W p.I t (jH items 0))(x:p.I.IsTupleIter a t k)(r:bR C p.W p.I vs items.toList)(N:Nx p a k (.a vs) vs[k]? Q):wpAny C.I A (pyNext (.ref a)) Q E p.s:=
 Ux (M:=λv u=>items[k]?=u->Nx p a k (.a vs) v Q->wpAny C.I A (pyNext (.ref a)) Q E p.s) r k (λJ e N=>wpAny_pyNext_tuple_end hh x ⟨_,i.2,rfl,0,rfl⟩ e λh' hx=>N.bn' ha h' _ hx)
  (λv u J V e N=>wpAny_pyNext_tuple_item x ⟨_,i.2,rfl,0,rfl⟩ e λh' hi hs=>N.bm' ha h' _ hs (bS hi.choose_spec.1) V λq e1 e2 E=>⟨e1▸ha,.inl ⟨t,items,0,⟨_,E.j _ _ i,.inl ⟨rfl,e2▸hi⟩⟩,r.G' E⟩⟩) rfl N
theorem LJ(hh:A.handled=none)(ha:p.W.d a=some (.d a,false))(i:qe p.W p.I t (b8 items n))(x:p.I.IsListIter a t k)(r:bR C p.W p.I vs items.toList)(N:Nx p a k (.a vs) vs[k]? Q):wpAny C.I A (pyNext (.ref a)) Q E p.s:=
 Ux (M:=λv u=>items[k]?=u->Nx p a k (.a vs) v Q->wpAny C.I A (pyNext (.ref a)) Q E p.s) r k (λJ e N=>wpAny_pyNext_list_end hh x ⟨_,i.2,rfl,n,rfl⟩ e λh' hx=>N.bn' ha h' _ hx)
  (λv u J V e N=>wpAny_pyNext_list_item x ⟨_,i.2,rfl,n,rfl⟩ e λh' hi hs=>N.bm' ha h' _ hs (bS hi.choose_spec.1) V λq e1 e2 E=>⟨e1▸ha,.inl ⟨t,items,n,⟨_,E.j _ _ i,.inr ⟨rfl,e2▸hi⟩⟩,r.G' E⟩⟩) rfl N
theorem LI(hh:A.handled=none)(ha:p.W.d a=some (.d a,false))(V:VM p v (.ref t))(x:p.I.IsListIter a t k)(hl:iI p.m v=some vs)(N:Nx p a k (.b v) vs[k]? Q):wpAny C.I A (pyNext (.ref a)) Q E p.s:=by
 refine(V.ls hl).ax' λl items n el g r z=>?_
 cases el
 exact Ux (M:=λw u=>items[k]?=u->Nx p a k (.b v) w Q->wpAny C.I A (pyNext (.ref a)) Q E p.s) r k (λJ e N=>wpAny_pyNext_list_end hh x ⟨_,g,rfl,n,rfl⟩ e λh' hx=>N.bn' ha h' _ hx)
  (λv u J V' e N=>wpAny_pyNext_list_item x ⟨_,g,rfl,n,rfl⟩ e λh' hi hs=>N.bm' ha h' _ hs (bS hi.choose_spec.1) V' λq e1 e2 E=>⟨e1▸ha,t,V.ab' E,e2▸hi⟩) rfl N
theorem T2(h:k<n):((n-1-k:Nat):Int)=(n:Int)-1-k:=by rw[Nat.sub_sub,Int.ofNat_sub (fE 1 k▸h),Int.natCast_add,<-xB];rfl
theorem rv2(h:k<n):(n:Int)-1-((k+1:Nat):Int)=((n-1-k:Nat):Int)-1:=by rw[T2 h,Int.natCast_succ,<-xB]
theorem rv3(hk:k<=n)(h:n<=k):(-1:Int)=(n:Int)-1-k:=by rw[gT hk h,xB,Int.add_comm,<-xB,Int.sub_self];rfl
theorem Ew(hh:A.handled=none)(ha:p.W.d a=some (.d a,false)){m:Nat}(x:IsRangeIter p.I a (k:Int) ((m:Int)-k) 1)(hk:k<=m)(N:Nx p a k (.c m) (if k<m then some (.d k)else none) Q):wpAny C.I A (pyNext (.ref a)) Q E p.s:=by
 by_cases h:k<m
 .rw[if_pos h]at N
  refine wpAny_pyNext_range_item x (Int.sub_pos_of_lt (dK.mpr h)) λh' hi hs=>N.bm' ha h' _ hs (bS hi) ⟨_,rfl⟩ λq e1 e2 E=>⟨e1▸ha,?_,h⟩
  rw[e2,show((k+1:Nat):Int)=(k:Int)+1 from rfl,<-xB]
  exact hi
 .rw[if_neg h]at N
  exact wpAny_pyNext_range_end hh x (Int.sub_nonpos_of_le (uL.mpr (cH h))) λh' hx=>N.bn' ha h' _ hx
theorem LH(hh:A.handled=none)(ha:p.W.d a=some (.d a,false))(i:qe p.W p.I t (b8 items n))(x:p.I.IsRevIter a t ((vs.length:Int)-1-k))(r:bR C p.W p.I vs.reverse items.toList)(hk:k<=vs.length)(N:Nx p a k (.a vs) vs[k]? Q):wpAny C.I A (pyNext (.ref a)) Q E p.s:=by
 rcases pG k vs.length with h|h
 .have e0:vs[k]?=some vs[k]:=b7 h;have e1:vs.reverse[vs.length-1-k]?=some vs[k]:=by rw[List.getElem?_reverse (JR h),zq h,e0]
  obtain⟨u,q1,q2⟩:=r.L' e1;rw[cg]at q1
  rw[e0]at N
  refine wpAny_pyNext_rev_item (i:=vs.length-1-k) (by rw[T2 h];exact x) ⟨_,i.2,rfl,n,rfl⟩ q1 λh' hi hs=>N.bm' ha h' _ hs (bS hi.choose_spec.1) q2 λq e1 e2 E=>⟨e1▸ha,.inr ⟨t,items,n,E.j _ _ i,?_,r.G' E,h⟩⟩
  rw[e2,rv2 h];exact hi
 .rw[aV h]at N
  exact wpAny_pyNext_rev_end hh (by rw[rv3 hk h];exact x) λh' hx=>N.bn' ha h' _ hx
theorem A7{r:aaf}(hh:A.handled=none)(x:w5 p a k it)(e:mw it k p.m=some r)(N:Nx p a k it r Q):wpAny C.I A (pyNext (.ref a)) Q E p.s:=by
 obtain⟨ha,x⟩:=x
 induction it with
 |a vs=>obtain rfl:=si e;exact x.elim (λ⟨t,items,n,⟨o,i,z⟩,r⟩=>z.elim (λz=>LG hh ha (z.1▸i) z.2 r N) λz=>LJ hh ha (z.1▸i) z.2 r N) λ⟨t,items,n,i,z,r,hk⟩=>LH hh ha i z r hk N
 |b v=>obtain⟨vs,e1,e2⟩:=aC.mp e;obtain⟨l,V,z⟩:=x;exact LI hh ha V z e1 (e2▸N)
 |c m=>obtain rfl:=si e;exact Ew hh ha x.1 x.2 N

def lh(p:Pt C)(a:Addr):Prop:=∃t k,p.I.IsTupleIter a t k\/p.I.IsListIter a t k
def li(p:Pt C)(it:It)(Q:Value->Shared->Prop):Prop:=∀q a,Ex p q->p.I.get? a=none->q.m=p.m->w5 q a 0 it->lh q a->Q (.ref a) q.s
theorem li.bo'{Q:Value->Shared->Prop}(I:li p it Q)(g:(p.I.push o).get? p.I.objs.size=some o)(x:∀q:Pt C,Ex p q->q.W.d p.I.objs.size=some (.d p.I.objs.size,false)->q.I.get? p.I.objs.size=some o->w5 q p.I.objs.size 0 it/\lh q p.I.objs.size):Q (.ref p.I.objs.size) {p.s with heap:=p.I.push o}:=
 have X:=p.f' (p.I.push o) p.s.toks (dY.aj' _ _) p.I.objs.size (cJ _) (bS g)
 I (p.d' (p.I.push o) p.s.toks (dY.aj' _ _) p.I.objs.size (cJ _) (bS g)) p.I.objs.size X (cJ _) rfl (x _ X (Wd.O ..) g).1 (x _ X (Wd.O ..) g).2
theorem A8{Q:Value->Shared->Prop}(V:VM p v u)(h:Ez v p.m=some it)(I:li p it Q):wpAny C.I A (pyIter u) Q E p.s:=
 lJ h (λh=>lJ h (λh=>by
  obtain⟨vs,e1,e2⟩:=aC.mp h;refine(V.ls e1).ax' λl items n el g r z=>?_
  subst e2 el;exact wpAny_pyIter_list ⟨_,g,rfl,n,rfl⟩ (I.bo' (bq _ rfl) λq X o g=>⟨⟨o,l,V.ab' X,_,g,rfl,rfl⟩,l,0,.inr ⟨_,g,rfl,rfl⟩⟩))
  λvs e h=>by
   obtain rfl:=si h;rw[lZ J1 e]at V
   obtain⟨t,items,n,et,i,r,J⟩:=V;subst et;exact wpAny_pyIter_list ⟨_,i.2,rfl,n,rfl⟩ (I.bo' (bq _ rfl) λq X o g=>⟨⟨o,.inl ⟨t,items,n,⟨_,X.j _ _ i,.inr ⟨rfl,_,g,rfl,rfl⟩⟩,bR.G' X r⟩⟩,t,0,.inr ⟨_,g,rfl,rfl⟩⟩))
  λvs e h=>by
   obtain rfl:=si h;rw[lZ kD e]at V
   refine VR.s' V λt items et i r J=>?_
   subst et;exact wpAny_pyIter_tuple ⟨_,i.2,rfl,0,rfl⟩ (I.bo' (bq _ rfl) λq X o g=>⟨⟨o,.inl ⟨t,items,0,⟨_,X.j _ _ i,.inl ⟨rfl,_,g,rfl,rfl⟩⟩,r.G' X⟩⟩,t,0,.inl ⟨_,g,rfl,rfl⟩⟩)
theorem xR{Q:Value->Shared->Prop}(x:lh p a)(h:Q (.ref a) p.s):wpAny C.I A (pyIter (.ref a)) Q E p.s:=by
 obtain⟨t,k,x|x⟩:=x
 .exact wpAny_pyIter_tupleiter x h
 .exact wpAny_pyIter_listiter x h
theorem sq{Q:Unit->Shared->Prop}(x:w5 p a k it)(h:Q () p.s):wpAny C.I A (letOwnedTupleGo pe (.ref a) u) Q E p.s:=by
 have go:(∃o n vs,p.I.get? a=some o/\o.cls=.type n/\o.data=.fields vs/\["enumerate","zip","dict_itemiterator","dict_reverseitemiterator","odict_iterator","itertools.zip_longest","itertools.pairwise"].contains n=false)->wpAny C.I A (letOwnedTupleGo pe (.ref a) u) Q E p.s:=by
  intro⟨o,n,vs,g,hc,hd,hn⟩;have key:∀{M:Model},wpAny M A (do
    let(.ref r,.ref a):=(Value.ref a,u)|return
    let o<-load r
    match o.cls,o.data with
    |.type n,.fields vs=>
     if["enumerate","zip","dict_itemiterator","dict_reverseitemiterator","odict_iterator","itertools.zip_longest","itertools.pairwise"].contains n&&vs[0]? ==some (rawInt a)then
      rule "for.unpacks-the-owned-tuple"
      updateField r 0 .none
    |_,_=>pure ()) Q E p.s:=by
   intro M
   induction u with
   |ref b=>
    refine wpAny_bind (wpAny_load g ?_);rw[hc,hd];show wpAny M A (if(_&&_)=true then _ else _) Q E p.s
    rw[hn];exact wpAny_pure h
   |_=>exact wpAny_pure h
  unfold letOwnedTupleGo
  induction pe using Expr.casesOn<;>first|exact key|exact wpAny_pure h
 obtain⟨J,x⟩:=x
 induction it with
 |a vs=>exact x.elim (λ⟨_,_,_,⟨_,_,z⟩,_⟩=>z.elim (λ⟨_,o,g,hc,hd⟩=>go ⟨o,_,_,g,hc,hd,by decide+kernel⟩) λ⟨_,o,g,hc,hd⟩=>go ⟨o,_,_,g,hc,hd,by decide+kernel⟩) λ⟨_,_,_,_,⟨o,g,hc,hd⟩,_⟩=>go ⟨o,_,_,g,hc,hd,by decide+kernel⟩
 |b v=>obtain⟨l,J,o,g,hc,hd⟩:=x;exact go ⟨o,_,_,g,hc,hd,by decide+kernel⟩
 |c m=>exact go ⟨_,_,_,x.1,rfl,rfl,by decide+kernel⟩

variable{Q:Unit->Shared->Prop}
noncomputable def CW(e:Expr):Option Str:=match e with
 |.Name x _=>some x
 |_=>none
noncomputable def Kv(e:Expr):Option (WB):=match e with
 |.Tuple es _ _=>some es
 |_=>none
theorem Bo{e:Expr}(h:CW e=some x):∃p,e=.Name x p:=by induction e using Expr.casesOn<;>first|exact⟨_,congrArg (Expr.Name · _) (aq h)⟩|exact nomatch (show none=some x from h)
theorem Mw{e:Expr}{x:WB}(h:Kv e=some x):∃k p,e=.Tuple x k p:=by induction e using Expr.casesOn<;>first|exact⟨_,_,congrArg (Expr.Tuple · _ _) (aq h)⟩|exact nomatch (show none=some x from h)
noncomputable def uM:S5->WB->Option (WE)
 |[],[]=>some []
 |i::is,e::r=>(CW e).bind λx=>(uM is r).map ((x,i):: ·)
 |_,_=>none
def lA(t:Nat ⊕ S5)(e:Expr):Option (WE):=match t with
 |.inl i=>(CW e).map λx=>[(x,i)]
 |.inr is=>(Kv e).bind (uM is)
structure qJ(env:Env)(sl:WE)(D:Addr->Prop)(t:WE):Prop where
 e:∀p∈t,sl.lookup p.1=some p.2
 a:∀p∈t,env.kindOf p.1=some .local\/env.kindOf p.1=some .cell
 d:∀p∈t,env.kindOf p.1=some .local->D env.locals
 b:∀p∈t,∀c,env.kindOf p.1=some .cell->env.cells.lookup p.1=some c->D c
theorem qJ.I{x:Str×Nat}{t:WE}(T:qJ env sl D (x::t)):qJ env sl D t:=⟨λp hp=>T.e p (af _ hp),λp hp=>T.a p (af _ hp),λp hp=>T.d p (af _ hp),λp hp=>T.b p (af _ hp)⟩
theorem BP{t:WE}(ek:mC env)(nd:(sl.map (·.2)).Nodup)(T:qJ env sl D ((x,i)::t))(L:fk sl env p loc)(V:VM p v u)(KK:kV sl env D p (loc.set i (some v)) Q):wpAny C.I A (assign (.Name x pos) env u) Q E p.s:=wpAny_assign_Name (p5 ek L nd (T.e _ aj) (T.a _ aj) (T.d _ aj) (T.b _ aj) V KK)
theorem xG{is:S5}{es:WB}{t:WE}(h:uM is es=some t)(k0:is=[]->es=[]->t=[]->G)(k1:∀i YQ x pos r t',is=i::YQ->es=.Name x pos::r->t=(x,i)::t'->uM YQ r=some t'->G):G:=by
 induction is using aQ with
 |nil=>induction es using aQ with
  |nil=>exact k0 rfl rfl (aq h).symm
  |cons=>exact nn h
 |cons i is=>induction es using aQ with
  |nil=>exact nn h
  |cons e r=>obtain⟨x,e1,h⟩:=fC h;obtain⟨t',e2,e3⟩:=aC.mp h;obtain⟨pos,e4⟩:=Bo e1;exact k1 i is x pos r t' rfl (by rw[e4]) e3.symm e2
theorem Qg{es:WB}:∀{is:S5}{t:WE},uM is es=some t->(assignEach es env).length=is.length/\(assignEach es env).findIdx? (·.1)=none:=by
 induction es with
 |nil=>exactλh=>xG h (λe1 J J=>e1▸⟨rfl,rfl⟩) λJ J J J J J J e=>nomatch e
 |cons e r ih=>
  refineλh=>xG h (λJ e=>nomatch e) λi is x pos r' t' e1 e2 e3 h=>?_
  .obtain⟨e4,e5⟩:=fF e2;subst e1 e4 e5;obtain⟨a,b⟩:=ih h;refine⟨congrArg Nat.succ a,?_⟩;show List.findIdx? (·.1) ((false,assign (.Name x pos) env)::assignEach r env)=none;rw[List.findIdx?_cons,b];rfl
theorem GY(ek:mC env)(nd:(sl.map (·.2)).Nodup){es:WB}:∀{is:S5}{t:WE}{p:Pt C}{loc:dj}{vs:S3}{us:S9},uM is es=some t->qJ env sl D t->fk sl env p loc->bR C p.W p.I vs us->vs.length=is.length->
  kV sl env D p ((is.zip vs).foldl (λl p=>l.set p.1 (some (.a p.2))) loc) Q->wpAny C.I A (assignInOrder ((assignEach es env).map (·.2)) us) Q E p.s:=by
 induction es with
 |nil=>
  intro is t p loc vs us h T L V hl KK;refine xG h (λe1 J J=>?_) λJ J J J J J J e=>nomatch e
  subst e1;obtain rfl:=lG.mp hl;obtain rfl:=(show us=[]from V)
  exact assignInOrder_nil (KK p (.c' _) rfl L)
 |cons e r ih=>
  intro is t p loc vs us h T L V hl KK;refine xG h (λJ e=>nomatch e) λi YQ x pos r' t' e1 e2 e3 h=>?_
  obtain⟨e4,e5⟩:=fF e2;subst e1 e3 e4 e5
  induction vs using aQ with
  |nil=>contradiction
  |cons v vs=>obtain⟨u,us',eu,hv,V⟩:=V;subst eu;exact assignInOrder_cons (BP (v:=.a v) ek nd T L hv λq E1 s1 L1=>ih h T.I L1 (bR.G' E1 V) (pD hl) λr E2 s2 L2=>KK r (E1.I E2) (s2.trans s1) L2)
theorem Gv{k:dj->Prop}(h:eU tgt v loc k)(k1:∀i,tgt=.inl i->k (loc.set i (some v))->G)(k2:∀is vs,tgt=.inr is->v=.a (.f vs)->vs.length=is.length->k ((is.zip vs).foldl (λl p=>l.set p.1 (some (.a p.2))) loc)->G):G:=by
 induction tgt with
 |inl i=>exact k1 i rfl h
 |inr is=>
  refine iS h λw ew h=>?_
  induction w using PV.casesOn with
  |f vs=>exact fj h λe h=>k2 is vs rfl ew (bM e) h
  |_=>exact h.elim
theorem vS{t:WE}{k:dj->Prop}(hh:A.handled=none)(ek:mC env)(nd:(sl.map (·.2)).Nodup)(L:fk sl env p loc)(ht:lA tgt pe=some t)(T:qJ env sl D t)(V:VM p v u)(h:eU tgt v loc k)(KK:∀q l8,eY D nj p q->q.m=p.m->fk sl env q l8->k l8->Q () q.s):wpAny C.I A (assign pe env u) Q E p.s:=
 Gv h (λi e h=>by
  subst e;obtain⟨x,e1,e2⟩:=aC.mp ht;obtain⟨pos,e3⟩:=Bo e1;subst e2 e3;exact BP ek nd T L V λq E s L=>KK q _ E s L h) λis vs e ev hl h2=>by
  subst e ev;obtain⟨es,e1,ht⟩:=fC ht;obtain⟨kk,pos,e3⟩:=Mw e1;subst e3;refine VR.s' V λa items ea i r z=>?_
  subst ea;obtain⟨l1,l2⟩:=Qg (env:=env) ht;refine wpAny_assign_Tuple hh ⟨_,i.2,rfl,0,rfl⟩ (by rw[l1,<-hl];exact r.F') l2 λh1 he=>?_
  have g:dY p.I h1:=λb o q=>he b o (λz=>by rw[z,cJ]at q;exact nn q) q
  exact GY (p:=p.m' h1 p.s.toks g) ek nd ht T (L.I (p.g' (D:=Ah) ..) λJ J f=>f) (bR.G' (p.g' (D:=Ah) (B:=nj) ..) r) hl λq E s L=>KK q _ ((p.g' ..).I E) s L h2

variable{zS:dj}{scope:Scope}{t:WE}{fz:aad}
noncomputable def xu(env:Env)(p:Str×NameKind):Option (Str×Addr):=if(p.2== .free)=true then(env.cells.lookup p.1).map (p.1,·)else none
def oW(env:Env)(l:aad):aar:=(l.filterMap (xu env)).reverse
theorem uE(h:∀p∈scope.names,p.2=.free->(env.cells.lookup p.1).isSome=true):closureFor scope env=pure (oW env scope.names):=by
 unfold closureFor;have key:∀(l:aad)(cs:aar),(∀p∈l,p.2=.free->(env.cells.lookup p.1).isSome=true)->
   (forIn l cs λx r=>match x with|(name,kind)=>if(kind== .free)=true then do let a<-cellOf env name;pure (ForInStep.yield ((name,a)::r))else pure (ForInStep.yield r))=(pure ((l.filterMap (xu env)).reverse++cs):Sem _):=by
  intro l
  induction l with
  |nil=>intro cs J;rfl
  |cons x r ih=>
   obtain⟨x,k⟩:=x;intro cs hp;have hr:=λcs=>ih cs λp rm=>hp p (af _ rm)
   rw[List.forIn_cons,List.filterMap_cons];by_cases hk:k=.free
   .subst hk;obtain⟨c,hc⟩:=bz.mp (hp (x,.free) aj rfl);have hc:env.cells.lookup x=some c:=hc;have e:xu env (x,.free)=some (x,c):=by show(env.cells.lookup x).map _=_;rw[hc];rfl
    rw[e];show _=pure (((x,c)::List.filterMap (xu env) r).reverse++cs);rw[fM,aK];have ec:cellOf env x=pure c:=by unfold cellOf;rw[hc]
    show(cellOf env x>>=λa=>pure (ForInStep.yield ((x,a)::cs)))>>=_=_
    rw[ec];exact hr _
   .have hb:(k==NameKind.free)=false:=beq_eq_false_iff_ne.mpr hk;have e:xu env (x,k)=none:=if_neg (by rw[hb];exact aO)
    rw[e];show(if(k==NameKind.free)=true then _ else _)>>=_=_
    rw[hb];exact hr _
 have:=key scope.names [] h;rw[az]at this
 exact congrArg (λm:Sem (aar)=>m>>=λcs=>pure cs) this
theorem lI{c:Addr}{l:aad}:(x,c)∈oW env l↔(x,.free)∈l/\env.cells.lookup x=some c:=by
 unfold oW;rw[List.mem_reverse,List.mem_filterMap];constructor
 .rintro ⟨⟨y,k⟩,hm,e⟩;unfold xu at e
  by_cases hk:(k==NameKind.free)=true
  .rw[if_pos hk]at e
   obtain⟨c',e1,e2⟩:=aC.mp e
   cases e2
   exact⟨eq_of_beq hk▸hm,e1⟩
  .rw[if_neg hk]at e;exact nn e
 .rintro ⟨hm,e⟩;exact⟨_,hm,by show(env.cells.lookup x).map _=_;rw[e];rfl⟩
theorem As{l:aad}(h:(l.map (·.1)).Nodup):(oW env l).Pairwise λx y=>x.1≠y.1:=by
 refine List.pairwise_reverse.mpr (List.Pairwise.filterMap (R:=λx y=>x.1≠y.1) (xu env) (λx y n a ea b eb=>?_) (List.pairwise_map.mp h))
 have go:∀{x:Str×NameKind}{a},xu env x=some a->a.1=x.1:=λ{x a} e=>by
  unfold xu at e
  by_cases hk:(x.2==NameKind.free)=true
  .rw[if_pos hk]at e
   obtain⟨c',J,e2⟩:=aC.mp e;exact e2▸rfl
  .rw[if_neg hk]at e;exact nn e
 rw[go ea,go eb];exact n.symm
theorem sA(fz:aad)(x:Str):∀names:aad,(fH fz names).lookup x=(names.lookup x).map λk=>if(k== .free&&jO x fz==some .cell)then .cell else k
 |[]=>rfl
 |(y,k)::r=>by
  have ih:=sA fz x r;have e1:∃k',fH fz ((y,k)::r)=(y,k')::fH fz r/\k'=if(k== .free&&jO y fz==some .cell)then .cell else k:=by
   by_cases hc:(k==NameKind.free&&jO y fz==some .cell)=true
   .exact⟨.cell,congrArg (· ::fH fz r) (if_pos hc),(if_pos hc).symm⟩
   .exact⟨k,congrArg (· ::fH fz r) (if_neg hc),(if_neg hc).symm⟩
  obtain⟨k',e1,e2⟩:=e1;rw[e1,dJ,dJ];by_cases hx:x=y
  .subst hx;rw[beq_self_eq_true];exact congrArg some e2
  .rw[beq_eq_false_iff_ne.mpr hx];exact ih
theorem xS(hk:env.scope.kind=.function):(relabel scope env).names=fH env.scope.names scope.names:=by unfold relabel fH Env.kindOf;simp only[hk,kh,beq_self_eq_true,gg]
structure E6(fz:aad)(scope:Scope)(t sl:WE):Prop where
 a:scope.kind=.function
 e:∀p∈scope.names,p.2=.local->scope.names.lookup p.1=some .local
 b:∀p∈scope.names,p.2=.free->fz.lookup p.1=some .cell
 d:∀p∈scope.names,p.2≠ .cell
 f:(scope.names.map (·.1)).Nodup
 c:∀p∈t,(fH fz scope.names).lookup p.1=some .local/\(fq t fz scope.names sl).lookup p.1=some p.2
 g:((fq t fz scope.names sl).map (·.2)).Nodup
theorem mG(h:nR fz scope t sl=true):E6 fz scope t sl:=by
 obtain⟨h1,h⟩:=ak.mp h;obtain⟨h2,h⟩:=ak.mp h;obtain⟨h3,h⟩:=ak.mp h;obtain⟨h4,h5⟩:=ak.mp h;have k2:∀p∈scope.names,(p.2=.local/\jO p.1 scope.names=some .local)\/(p.2=.free/\jO p.1 fz=some .cell)\/p.2=.globalImplicit:=λp hp=>(AM (aJ.mp h2 p hp)).elim (λz=>(AM z).imp (λz=>(ak.mp z).imp eq_of_beq eq_of_beq) λz=>.inl ((ak.mp z).imp eq_of_beq eq_of_beq)) λz=>.inr (.inr (eq_of_beq z))
 refine⟨eq_of_beq h1,λp hp e=>?_,λp hp e=>?_,λp hp e=>?_,qQ h3,λp hp=>?_,wz h5⟩
 .rcases k2 p hp with⟨J,z⟩|⟨z,J⟩|z
  .exact(kh ..).symm.trans z
  .cases z.symm.trans e
  .cases z.symm.trans e
 .rcases k2 p hp with⟨z,J⟩|⟨J,z⟩|z
  .cases z.symm.trans e
  .exact(kh ..).symm.trans z
  .cases z.symm.trans e
 .rcases k2 p hp with⟨z,J⟩|⟨z,J⟩|z<;>cases z.symm.trans e
 .obtain⟨a,b⟩:=ak.mp (aJ.mp h4 p hp);exact⟨(kh ..).symm.trans (eq_of_beq a),(zj ..).symm.trans (eq_of_beq b)⟩

theorem lR{α:Type}{c:α}{l:List (Str×α)}(h:(x,c)∈l):∃d,l.lookup x=some d:=by
 induction l with
 |nil=>cases h
 |cons e r ih=>
  obtain⟨y,d⟩:=e;rw[dJ];by_cases hx:x=y
  .rw[beq_iff_eq.mpr hx];exact⟨d,rfl⟩
  .rw[beq_eq_false_iff_ne.mpr hx];exact(aF.mp h).elim (λe=>absurd (congrArg Prod.fst e) hx) ih
theorem qC(f:Str->Bool)(x:Str):∀sl:WE,(sl.filter λp=>f p.1).lookup x=if f x then sl.lookup x else none
 |[]=>by rw[List.filter_nil];exact(ite_self none).symm
 |(y,i)::r=>by
  have ih:=qC f x r;rw[List.filter_cons];by_cases hf:f y=true
  .rw[if_pos hf,dJ,dJ];by_cases hx:x=y
   .subst hx;rw[beq_self_eq_true,if_pos hf]
   .rw[beq_eq_false_iff_ne.mpr hx];exact ih
  .rw[if_neg hf,ih,dJ];by_cases hx:x=y
   .subst hx;rw[if_neg hf,if_neg hf]
   .rw[beq_eq_false_iff_ne.mpr hx]
abbrev z0(env:Env)(scope:Scope)(L0:Addr):Env:=compEnvC scope (oW env scope.names) L0 env
theorem qW(ek:mC env):(z0 env scope L0).scope.names=fH env.scope.names scope.names:=xS ek.a
theorem yv(ek:mC env)(O:E6 env.scope.names scope t sl)(h:(fH env.scope.names scope.names).lookup x=some .cell):env.kindOf x=some .cell/\∀c,env.cells.lookup x=some c->(oW env scope.names).lookup x=some c:=by
 rw[sA]at h
 obtain⟨k,e1,e2⟩:=aC.mp h;have hm:=cV e1;have hk:k=.free:=by
  by_cases z:(k==NameKind.free)=true
  .exact eq_of_beq z
  .rw[if_neg λw=>z (ak.mp w).1]at e2
   exact absurd e2 (O.d _ hm)
 subst hk;refine⟨O.b _ hm rfl,λc hc=>?_⟩
 obtain⟨d,hd⟩:=lR (lI.mpr ⟨hm,hc⟩);obtain⟨J,e3⟩:=lI.mp (cV hd);obtain rfl:=aq (hc.symm.trans e3);exact hd
theorem Rl(ek:mC env)(O:E6 env.scope.names scope t sl):mC (z0 env scope L0):=by
 refine⟨O.a,ek.c,ek.d,λx h=>?_⟩
 obtain⟨k,f⟩:=yv ek O ((congrArg (List.lookup x) (qW (L0:=L0) ek)).symm.trans h);obtain⟨c,hc⟩:=bz.mp (ek.b x k);exact bz.mpr ⟨c,f c hc⟩
theorem Ib(ek:mC env)(O:E6 env.scope.names scope t sl)(L:fk sl env p loc)(hn:p.I.Ns L0 (λJ=>none))(o:p.W.d L0=some (.d L0,false))(sW:∀c x,env.cells.lookup x=some c->c≠L0)
  (h1:∀p∈t,∀v,zS[p.2]? ≠some (some v))(h2:∀(i:Nat)(v:MV),zS[i]?=some (some v)->loc[i]?=some (some v)):fk (fq t env.scope.names scope.names sl) (z0 env scope L0) p zS:=by
 have cm:∀{x c},(oW env scope.names).lookup x=some c->env.cells.lookup x=some c:=λe=>(lI.mp (cV e)).2
 refine⟨λa f=>f.elim (λe=>e▸o) λ⟨x,hx⟩=>L.r a (.inr ⟨x,cm hx⟩),λx c e=>⟨(L.s x c (cm e)).1,sW c x (cm e)⟩,?_,_,hn,λx i v e1 e2=>?_⟩
 .refine List.Pairwise.imp_of_mem (λ{x y} hx hy hxy e=>?_) (As (env:=env) O.f)
  exact hxy (name_of_addr L.G (cV (lI.mp hx).2) (e▸cV (lI.mp hy).2))
 .unfold fq at e1
  rw[List.lookup_append]at e1
  induction q:t.lookup x with
  |some j=>
   rw[q]at e1
   obtain rfl:=si e1;exact absurd e2 (h1 _ (cV q) v)
  |none=>
   rw[q,Option.none_or,qC (λx=>jO x (fH env.scope.names scope.names)==some .cell)]at e1
   by_cases hc:(jO x (fH env.scope.names scope.names)==some .cell)=true
   .rw[if_pos hc]at e1
    obtain⟨m,hm,hv⟩:=L.F;obtain⟨u,hh,hu⟩:=hv x i v e1 (h2 i v e2);have hk:(fH env.scope.names scope.names).lookup x=some .cell:=(kh ..).symm.trans (eq_of_beq hc);obtain⟨ko,f⟩:=yv ek O hk;rcases hh with⟨k,J⟩|⟨J,c,z1,z2⟩
    .cases ko.symm.trans k
    .exact⟨u,.inr ⟨(congrArg (List.lookup x) (qW ek)).trans hk,c,f c z1,z2⟩,hu⟩
   .rw[if_neg hc]at e1;exact nn e1
theorem rX{l:dj}{w:MV}(e:(l.set j none)[i]?=some (some w)):l[i]?=some (some w)/\i≠j:=by
 by_cases z:j=i
 .subst z;rw[List.getElem?_set,if_pos rfl]at e
  by_cases y:j<l.length
  .rw[if_pos y]at e;cases e
  .rw[if_neg y]at e;exact nn e
 .rw[bG z]at e;exact⟨e,gE z⟩
theorem tQ{is:S5}:∀{l:dj}{i:Nat}{w:MV},(is.foldl (λl i=>l.set i none) l)[i]?=some (some w)->l[i]?=some (some w)/\i∉is:=by
 induction is with
 |nil=>exactλe=>⟨e,gm⟩
 |cons j r ih=>intro l i w e;obtain⟨a,b⟩:=ih e;obtain⟨c,d⟩:=rX a;exact⟨c,λhm=>(aF.mp hm).elim d b⟩
theorem Li{w:MV}{ps:WL}:∀{l:dj},(∀p∈ps,p.1≠i)->l[i]?=some (some w)->(ps.foldl (λl p=>l.set p.1 (some (.a p.2))) l)[i]?=some (some w):=by
 induction ps with
 |nil=>exactλJ h=>h
 |cons p r ih=>exactλhp h=>ih (λq hq=>hp q (af _ hq)) ((bG (hp p aj)).trans h)
theorem Qf{es:WB}:∀{is:S5}{t:WE},uM is es=some t->∀p∈t,p.2∈is:=by
 induction es with
 |nil=>exactλh p hp=>xG h (λJ J e=>nomatch e▸hp) λJ J J J J J J e=>nomatch e
 |cons e r ih=>
  refineλh p hp=>xG h (λJ e=>nomatch e) λi is x pos r' t' e1 e2 e3 h=>?_
  rw[e1];rw[e3]at hp
  rcases aF.mp hp with z|hp
  .rw[z];exact aj
  .exact af _ (ih ((fF e2).2▸h) p hp)
theorem Au(ht:lA tgt pe=some t)(loc:dj):(∀p∈t,∀v,(gQ tgt loc)[p.2]? ≠some (some v))/\(∀(i:Nat)(v:MV),(gQ tgt loc)[i]?=some (some v)->loc[i]?=some (some v))/\
  (∀(v:MV)(k:dj->Prop),eU tgt v (gQ tgt loc) k->eU tgt v (gQ tgt loc) λl8=>k l8/\∀(i:Nat)(v:MV),(gQ tgt loc)[i]?=some (some v)->l8[i]?=some (some v)):=by
 induction tgt with
 |inl j=>
  obtain⟨x,e1,e2⟩:=aC.mp ht;subst e2;refine⟨λp hp v e=>?_,λi v e=>(rX e).1,λv k hb=>⟨hb,λi w e=>(bG (gE (rX e).2)).trans e⟩⟩
  rw[aB.mp hp]at e
  exact(rX e).2 rfl
 |inr is=>
  obtain⟨es,e1,ht⟩:=fC ht;exact⟨λp hp v e=>(tQ e).2 (Qf ht p hp),λi v e=>(tQ e).1,λv k hb=>Gv hb (λi e=>nomatch e) λYQ vs e ev hl h=>by
   cases e
   subst ev;show gb (Nat.beq vs.length is.length) _;rw[hl,pH];exact⟨h,λi w e=>Li (λp hp z=>(tQ e).2 (z▸(List.of_mem_zip hp).1)) e⟩⟩

section
variable{prog:Program}{w:World}{A:Around}{R:Result->Shared->Prop}{s:Shared}
theorem Aq{gF kE fX:Expr}{mE:WB}{scope:Scope}{pos:Pos}{it acc:Value}{env:Env}(I:Nat->Shared->Prop)
  (T4:∀n s,I n s->wpAny (model prog w) A (pyNext it) (λr cu=>match r with
   |none=>R (.ok .next) cu
   |some v=>wpAny (model prog w) A (letOwnedTupleGo kE it v) (λJ cu=>wpAny (model prog w) A (assign kE env v) (λJ ju=>
     wpAny (model prog w) A (forIn mE true λc r=>if r=true then do let ok<-isTrue c env (eval c env);pure (ForInStep.yield ok)else pure (ForInStep.yield r)) (λok pq=>
      if ok=true then wpAny (model prog w) A (eval gF env) (λx Ny=>wpAny (model prog w) A (call (.builtin "list.append") [acc,x]) (λJ XR=>∃m,m<n/\I m XR) (notedBy (model prog w) A env λe s'=>R (.error e) s') Ny) (notedBy (model prog w) A env λe s'=>R (.error e) s') pq
      else∃m,m<n/\I m pq) (notedBy (model prog w) A env λe s'=>R (.error e) s') ju) (notedBy (model prog w) A env λe s'=>R (.error e) s') cu) (notedBy (model prog w) A env λe s'=>R (.error e) s') cu) (notedBy (model prog w) A env λe s'=>R (.error e) s') s)
  (n:Nat)(h:I n s):
  codeAny (model prog w) A (.compLoop (.ListComp gF [⟨kE,fX,mE,0⟩] scope pos) 0 it acc env) R s:=by
 refine codeAny_loop rfl I (λn s hI=>?_) n h
 show wpAny _ A ((compTurn (.ListComp gF [⟨kE,fX,mE,0⟩] scope pos) 0 it acc env).onRaise (λx=>do noteFrame x env;theTreesLotGoes x)) _ _ s
 refine wpAny_noted ?_;rw[compTurn_list];refine wpAny_bind (wpAny_standAt (wpAny_bind (wpAny_mono (T4 n s hI) (λr cu jE=>?_) λJ J h'=>h')))
 induction r with
 |none=>exact wpAny_pure jE
 |some v=>
  refine wpAny_bind (wpAny_mono jE (λJ cu jE=>?_) λJ J h'=>h')
  refine wpAny_bind (wpAny_mono jE (λJ ju nY=>wpAny_bind (wpAny_mono nY (λok pq xm=>?_) λJ J h'=>h')) λJ J h'=>h')
  induction ok with
  |false=>exact wpAny_pure ⟨rfl,xm⟩
  |true=>exact wpAny_bind (wpAny_bind (wpAny_mono xm (λx Ny At=>wpAny_bind (wpAny_mono At (λJ XR Ap=>wpAny_pure (wpAny_pure ⟨rfl,Ap⟩)) λJ J h'=>h')) λJ J h'=>h'))
theorem Cr{kE:Expr}{it:Value}{body CQ:aaj}{env:Env}(I:Nat->Shared->Prop)
  (T4:∀n s,I n s->wpAny (model prog w) A (pyNext it) (λr cu=>match r with
   |none=>wpAny (model prog w) A (execs CQ env) (λf pq=>R (.ok f) pq) (notedBy (model prog w) A env λe s'=>R (.error e) s') cu
   |some v=>wpAny (model prog w) A (letOwnedTupleGo kE it v) (λJ cu=>wpAny (model prog w) A (assign kE env v) (λJ ju=>wpAny (model prog w) A (execs body env) (λf pq=>match f with
     |.next|.cont=>∃m,m<n/\I m pq
     |.brk=>R (.ok .next) pq
     |.ret v=>R (.ok (.ret v)) pq) (notedBy (model prog w) A env λe s'=>R (.error e) s') ju) (notedBy (model prog w) A env λe s'=>R (.error e) s') cu) (notedBy (model prog w) A env λe s'=>R (.error e) s') cu) (notedBy (model prog w) A env λe s'=>R (.error e) s') s)
  (n:Nat)(h:I n s):codeAny (model prog w) A (.forLoop kE it body CQ env) R s:=by
 refine codeAny_loop' rfl I (λn s hI=>?_) n h
 show wpAny _ _ ((forTurn kE it body CQ env).onRaise (λx=>do noteFrame x env;theTreesLotGoes x)) _ _ s
 refine wpAny_noted ?_;simp only[forTurn];refine wpAny_bind (wpAny_standAt (wpAny_bind (wpAny_onRaise (wpAny_mono (T4 n s hI) (λr cu jE=>?_) λJ J h'=>wpAny_standAt h'))))
 induction r with
 |none=>exact wpAny_pure (.inr ⟨rfl,codeAny_block jE⟩)
 |some v=>
  refine wpAny_bind (wpAny_mono jE (λJ cu jE=>?_) λJ J h'=>h')
  refine wpAny_bind (wpAny_mono jE (λJ ju nY=>wpAny_bind (wpAny_mono nY (λf pq xm=>?_) λJ J h'=>h')) λJ J h'=>h')
  induction f with
  |next=>exact wpAny_pure (.inl ⟨rfl,xm⟩)
  |cont=>exact wpAny_pure (.inl ⟨rfl,xm⟩)
  |brk=>exact wpAny_pure xm
  |ret v=>exact wpAny_pure xm
end
noncomputable def FP.mv(x:FP K nms sl)(q:Pt K.C)(loc:dj)(L:fk sl x.a q loc):FP K nms sl:= {x with p:=q,b:=loc,L:=L}
theorem fk.d'(L:fk sl env p zS)(x:∀(i:Nat)(v:MV),loc[i]?=some (some v)->zS[i]?=some (some v)):fk sl env p loc:=by obtain⟨m,hm,hv⟩:=L.F;exact⟨L.r,L.s,L.G,m,hm,λn i v e1 e2=>hv n i v e1 (x i v e2)⟩
theorem fk.ne(L:fk sl env p loc){d:Addr}{o:Obj}(g:p.I.get? d=some o)(h1:∀es ep,o.data≠ .dict es ep)(h2:∀v,o.data≠ .cell v):∀b,nQ env b->b≠d:=λb f z=>by
 subst z;rcases f with f|⟨n,f⟩
 .obtain⟨m,⟨o',es,ep,g',hd,J⟩,J⟩:=L.F;rw[<-f]at g'
  obtain rfl:=aq (g.symm.trans g');exact h1 es ep hd
 .obtain⟨⟨v,o',ho,hd⟩,J⟩:=L.s n b f;obtain rfl:=aq (g.symm.trans ho);exact h2 v hd
theorem w5.bl'{a:Addr}{k:Nat}{it:It}(x:w5 p a k it):∃o vs,p.I.get? a=some o/\o.data=.fields vs:=by
 obtain⟨J,x⟩:=x
 induction it with
 |a vs=>exact x.elim (λ⟨_,_,_,⟨_,_,z⟩,_⟩=>z.elim (λ⟨_,o,g,_,hd⟩=>⟨o,_,g,hd⟩) λ⟨_,o,g,_,hd⟩=>⟨o,_,g,hd⟩) λ⟨_,_,_,_,⟨o,g,_,hd⟩,_⟩=>⟨o,_,g,hd⟩
 |b v=>obtain⟨l,J,o,g,J,hd⟩:=x;exact⟨o,_,g,hd⟩
 |c m=>exact⟨_,_,x.1,rfl⟩
theorem fk.O(L:fk sl env p loc){a:Addr}{k:Nat}{it:It}(x:w5 p a k it):∀b,nQ env b->b≠a:=by obtain⟨o,vs,g,hd⟩:=x.bl';exact L.ne g (λJ J e=>nomatch hd.symm.trans e) λJ e=>nomatch hd.symm.trans e
structure NY(K:Kt)(nms:Nm)(sl:Sl)(mE:WB)(cQ:EV):Prop where
 a:∀{k:MV->Bool->St->Prop}{Q:Bool->Shared->Prop}{E:Value->Shared->Prop}(x:FP K nms sl),cQ x.b x.p.m (λv s=>ob (dB s v) λb=>k v b s)->KTf x.p k Q->
  x.O (forIn mE true λc r=>if r=true then do let ok<-PySem.isTrue c x.a (eval c x.a);pure (ForInStep.yield ok)else pure (ForInStep.yield r)) Q E
theorem TE.I{e:ME}(y:TE K nms sl e pe):NY K nms sl [pe] (aE K.a e):=⟨λX he KK=>wpAny_tests_one (y.t.a X he KK)⟩
theorem JO:NY K nms sl [] (bN (.g true)):=⟨λX he KK=>wpAny_tests_nil (KK X.p (.a (.g true)) true (.c' _) rfl he)⟩
abbrev JB(a d L0:Addr):Addr->Prop:=λb=>b=a\/b=d\/b=L0
structure A0{C:dX}(a d L0:Addr)(it:It)(p0:Pt C)(k:Nat)(acc:S3)(p:Pt C)(ys:WA)(m:Nat):Prop where
 S:eY (JB a d L0) nj p0 p
 x:w5 p a k it
 c:p.W.d d=some (.d d,false)
 g:p.I.get? d=some (b8 ys m)
 V:bR C p.W p.I acc ys.toList
theorem A0.I{D:Addr->Prop}{a d L0:Addr}{it:It}{p0:Pt C}{k m:Nat}{acc:S3}{ys:WA}(Y:A0 a d L0 it p0 k acc p ys m)(E:eY D nj p q)(hD:∀b,D b->b=L0)(x7:a≠L0)(GD:d≠L0):A0 a d L0 it p0 k acc q ys m:=
 have nd:¬D d:=λz=>GD (hD d z)
 ⟨Y.S.I (E.V (λb z=>.inl (.inr (.inr (hD b z)))) λJ f=>f),Y.x.bk' E λz=>x7 (hD a z),E.O Y.c (λJ J=>nofun) λJ=>nd,(E.c d d Y.c nd).trans Y.g,bR.G' E Y.V⟩

variable{p q p0:Pt K.C}{d:Addr}{m:Nat}{acc:S3}{ys:WA}{Q:Value->Shared->Prop}
theorem A0.d'{x:PV}(Y:A0 a d L0 it p0 k acc p ys m)(AV:a≠d)(L:fk sl env p loc)(V:VR K.C p.W p.I x u)(hz:ys.size<=100000)(h:∀q m',fk sl env q loc->q.m=p.m->A0 a d L0 it p0 k (acc++[x]) q (ys.push u) m'->Q .none q.s):wpAny K.C.I A (call (.builtin "list.append") [.ref d,u]) Q E p.s:=by
 have g':=IsL.update Y.g (·.push u);have hs:Heap.SameBut d p.I (p.I.update d (Obj.mapSeq (·.push u))):=Heap.SameBut.update ..;have E1:eY (λb=>b=d) nj p (p.i' _ p.s.toks d Y.c hs (bS g')):=p.n' _ _ _ _ _ _ rfl
 refine pV Y.g (gM hz) (h (p.i' _ p.s.toks d Y.c hs (bS g')) _ (L.I E1 (L.ne Y.g (λJ J e=>nomatch e) λJ e=>nomatch e)) rfl ⟨Y.S.I (E1.V (λb z=>.inl (.inr (.inl z))) λJ f=>f),Y.x.bk' E1 AV,Y.c,g',?_⟩)
 rw[Array.toList_push];exact(bR.G' E1 Y.V).N' (.P' (VR.v' E1 V))
theorem A0.c'(Y:A0 a d L0 it p0 k acc p ys m):acc.length=ys.size:=Y.V.F'
theorem A0.O(Y:A0 a d L0 it p0 k acc p ys m)(E:eY (λb=>b=a) nj p q)(AV:a≠d)(x:w5 q a (k+1) it):A0 a d L0 it p0 (k+1) acc q ys m:=⟨Y.S.I (E.V (λb z=>.inl (.inl z)) λJ f=>f),x,E.O Y.c (λJ J=>nofun) λJ=>gE AV,(E.c d d Y.c (gE AV)).trans Y.g,bR.G' E Y.V⟩
theorem Am{gF kE fX:Expr}{mE:WB}{t:Sl}{cQ:EV}{RR:Result->Shared->Prop}{kk:S3->St->Prop}(ht:lA tgt kE=some t)(T:qJ X.a sl (λb=>b=X.a.locals) t)(hT:NY K nms sl mE cQ)(hE:TE K nms sl e gF)(Da:∀(v:MV)(k:dj->Prop),eU tgt v X.b k->eU tgt v X.b λl8=>k l8/\∀(i:Nat)(v:MV),X.b[i]?=some (some v)->l8[i]?=some (some v))(AV:a≠d)(x7:a≠X.a.locals)(GD:d≠X.a.locals)(hR:∀q xs ys m,eY (JB a d X.a.locals) nj p0 q->fk sl X.a q X.b->q.W.d d=some (.d d,false)->q.I.get? d=some (b8 ys m)->bR K.C q.W q.I xs ys.toList->ys.size<=100000->kk xs q.m->RR (.ok .next) q.s)(f:Nat)(he:compLoop tgt it cQ (aE K.a e) X.b f k acc X.p.m kk)(hl:acc.length+f<=100001)(Y:A0 a d X.a.locals it p0 k acc X.p ys m):
  codeAny K.C.I X.A (.compLoop (.ListComp gF [⟨kE,fX,mE,0⟩] scope pos) 0 (.ref a) (.ref d) X.a) RR X.p.s:=by
 refine Aq (I:=λf s'=>∃(p:Pt K.C)(k:Nat)(acc:S3)(ys:WA)(m:Nat),s'=p.s/\fk sl X.a p X.b/\compLoop tgt it cQ (aE K.a e) X.b f k acc p.m kk/\acc.length+f<=100001/\
   A0 a d X.a.locals it p0 k acc p ys m) ?_ f ⟨X.p,k,acc,ys,m,rfl,X.L,he,hl,Y⟩
 rintro f J ⟨p,k,acc,ys,m,rfl,L,he,hl,Y⟩
 induction f using iV with
 |zero=>exact he.elim
 |succ f=>
  refine dh he λr hr he=>A7 X.i.b Y.x hr λq o E1 s1 c1 c0=>?_
  have L1:=L.I E1 (L.O Y.x);have hz:ys.size<=100000:=Y.c'▸aA (cB _ f) (Nat.le_of_succ_le_succ hl)
  induction r with
  |none=>obtain rfl:=c0 rfl;exact hR q acc ys m (Y.S.I (E1.V (λb z=>.inl (.inl z)) λJ f=>f)) L1 (E1.O Y.c (λJ J=>nofun) λJ=>gE AV) ((E1.c d d Y.c (gE AV)).trans Y.g) (bR.G' E1 Y.V) hz (s1▸he)
  |some v=>
   obtain⟨u,eo,V,x1⟩:=c1 v rfl;subst eo;have Y1:=Y.O E1 AV x1;have hb:=Da (.a v) _ (show eU tgt (.a v) X.b (λl8=>cQ l8 p.m λt s=>tb (dB s t) (compLoop tgt it cQ (aE K.a e) X.b f (k+1) acc s kk) (aE K.a e l8 s λx s=>pb x λx=>compLoop tgt it cQ (aE K.a e) X.b f (k+1) (acc++[x]) s kk))from he)
   refine sq x1 (vS (D:=λb=>b=X.a.locals) X.i.b X.g X.n L1 ht T (v:=.a v) V hb λq2 l8 E2 s2 L2 hk=>?_)
   have Y2:=Y1.I E2 (λJ z=>z) x7 GD
   refine hT.a (X.mv q2 l8 L2) (k:=λJ b s=>B9 (compLoop tgt it cQ (aE K.a e) X.b f (k+1) acc s kk) (aE K.a e l8 s λx s=>pb x λx=>compLoop tgt it cQ (aE K.a e) X.b f (k+1) (acc++[x]) s kk) b) (by show cQ l8 q2.m _;rw[s2,s1];exact hk.1) λq3 tv b E3 J h3=>?_
   have Y3:=Y2.I E3 (λJ f=>f.elim) x7 GD
   have L3:=L2.I E3 λJ J f=>f
   induction b with
   |false=>exact⟨f,bD f,q3,k+1,acc,ys,m,rfl,L3.d' hk.2,h3,Nat.le_of_succ_le hl,Y3⟩
   |true=>
    refine hE.v.a (X.mv q3 l8 L3) h3 λq4 xv u4 E4 V4 h4=>iS h4 λxp ex h4=>?_
    subst ex;refine(Y3.I E4 (λJ f=>f.elim) x7 GD).d' AV ((L3.I E4 λJ J f=>f).d' hk.2) V4 hz λq5 m5 L5 s5 Y5=>?_
    exact⟨f,bD f,q5,k+1,acc++[xp],ys.push u4,m5,rfl,L5,s5▸h4,by rw[aa];exact aA (bZ (Nat.succ_add_eq_add_succ ..)) hl,Y5⟩

variable{cQ:EV}{fX:ME}{jF g7 iter' Jh:Expr}{mE:WB}{t:Sl}{k:MV->St->Prop}
structure CO(K:Kt)(nms:Nm)(sl:Sl)(tgt:Nat ⊕ S5)(cQ:EV)(e:ME)(jF g7:Expr)(mE:WB)(scope:Scope)(t:Sl):Prop where
 O:E6 nms scope t sl
 c:lA tgt g7=some t
 a:NY K (fH nms scope.names) (fq t nms scope.names sl) mE cQ
 b:TE K (fH nms scope.names) (fq t nms scope.names sl) e jF
structure CR{C:dX}(p:Pt C)(xs:S3)(d L0:Addr)(q:Pt C)(ys:WA)(m:Nat):Prop where
 E:Ex p q
 h:q.W.d d=some (.d d,false)
 g:q.I.get? d=some (b8 ys m)
 u:p.I.get? d=none
 V:bR C q.W q.I xs ys.toList
 t:ys.size<=100000
 s:∃mm,q.I.Ns L0 mm
 a:q.W.d L0=some (.d L0,false)
 n:p.I.get? L0=none
 i:d≠L0
theorem ER{kk:S3->St->Prop}{RR:Result->Shared->Prop}(Y:CO K nms sl tgt cQ e jF g7 mE scope t)(E0:Ex X.p p)(E1:Ex p q)(fa:p.I.get? a=none)(fd:p.I.get? d=none)(fL:p.I.get? L0=none)(AV:a≠d)(x7:a≠L0)(GD:d≠L0)(x:w5 q a 0 it)(od:q.W.d d=some (.d d,false))(g:q.I.get? d=some (b8 #[] 0))(oL:q.W.d L0=some (.d L0,false))(hn:q.I.Ns L0 λJ=>none)(hl:iC it q.m<=100000)(hc:compLoop tgt it cQ (aE K.a e) (gQ tgt X.b) (iC it q.m+1) 0 [] q.m kk)(hR:∀r xs ys m,CR X.p xs d L0 r ys m->kk xs r.m->RR (.ok .next) r.s):codeAny K.C.I X.A (.compLoop (.ListComp jF [⟨g7,iter',mE,0⟩] scope pos) 0 (.ref a) (.ref d) (z0 X.a scope L0)) RR q.s:=by
 obtain⟨O,ht,hT,hE⟩:=Y;have O':E6 X.a.scope.names scope t sl:=X.l.symm▸O;obtain⟨c1,c2,c3⟩:=Au ht X.b;have L:fk sl X.a q X.b:=X.L.I (E0.I E1) λJ J f=>f
 have L4:=Ib (L0:=L0) (zS:=gQ tgt X.b) X.g O' L hn oL (λc y hy z=>by
  have l:=X.p.r.d c _ (X.L.r c (.inr ⟨y,hy⟩));have:=E0.s c id l;unfold eE at this
  rw[z,fL]at this
  exact ft this) c1 c2
 rw[X.l]at L4
 have nm:(z0 X.a scope L0).scope.names=fH nms scope.names:=(qW X.g).trans (by rw[X.l])
 have kl:∀p∈t,(z0 X.a scope L0).kindOf p.1=some .local:=λp hp=>(congrArg (List.lookup p.1) nm).trans (O.c p hp).1
 have T:qJ (z0 X.a scope L0) (fq t nms scope.names sl) (λb=>b=L0) t:=⟨λp hp=>(O.c p hp).2,λp hp=>.inl (kl p hp),λJ J J=>rfl,λp hp c hk=>nomatch (kl p hp).symm.trans hk⟩
 have dead:∀b,JB a d L0 b->p.I.get? b=none:=λb z=>by rcases z with z|z|z<;>rw[z]<;>assumption
 have up:∀{b},p.I.get? b=none->X.p.I.get? b=none:=λz=>E0.d' id z
 exact Am (p0:=p) (X:=⟨q,z0 X.a scope L0,X.A,gQ tgt X.b,Rl X.g O',nm,O.g,X.i,L4⟩) ht T hT hE c3 AV x7 GD
  (λr xs ys m S L od g V hz hk=>hR r xs ys m ⟨E0.I (S.V (λb z=>.inr (dead b z)) λJ f=>f),od,g,up fd,V,hz,⟨_,L.F.choose_spec.1⟩,L.r L0 (.inl rfl),up fL,GD⟩ hk)
  (iC it q.m+1) hc (by rw[u5,gc];exact cA hl) ⟨E1.e',x,od,g,rfl⟩
theorem yt{kk:S3->St->Prop}{RR:Value->Addr->Result->Shared->Prop}(Y:CO K nms sl tgt cQ e jF g7 mE scope t)(y:TE K nms sl fX iter')(he:aE K.a fX X.b X.p.m λsV s=>ob (Ez sV s) λit=>gb (decide (iC it s<=100000)) (compLoop tgt it cQ (aE K.a e) (gQ tgt X.b) (iC it s+1) 0 [] s kk))
  (hR:∀r xs ys m d L0,CR X.p xs d L0 r ys m->kk xs r.m->RR (.ref d) L0 (.ok .next) r.s):
  X.O (eval iter' X.a) (λx cu=>wpAny K.C.I X.A (pyIter x) (λit ju=>wpAny K.C.I X.A (newList []) (λacc pq=>wpAny K.C.I X.A (newFunctionEnv scope X.a.globals (oW X.a scope.names) [] X.a.qual none .none (some X.a)) (λYo Ny=>codeAny K.C.I X.A (.compStart (.ListComp jF [⟨g7,iter',mE,0⟩] scope pos) 0 it acc {Yo with scope:=relabel scope X.a}) (RR acc Yo.locals) Ny) E pq) E ju) E cu) E:=
 y.v.a X he λq1 sV u1 E1 V1 hk=>dh hk λit hm hk=>fj hk λhl hc=>A8 V1 hm λq2 a E2 fa s2 x2 i2=>wpAny_newList (by
  have g3:(q2.I.push (b8 #[] 0)).get? q2.I.objs.size=some (b8 #[] 0):=bq _ rfl;have n2:=cJ q2.I
  let q3:=q2.d' (q2.I.push (b8 #[] 0)) q2.s.toks (dY.aj' _ _) q2.I.objs.size n2 (bS g3)
  have E3:Ex q2 q3:=q2.f' ..;refine wpAny_newFunctionEnv (λx hx=>Y.O.d x hx) (λx hx=>nomatch hx) (λh4 hn4 sb4=>?_) Y.O.a
  have n3:q3.I.get? q3.I.objs.size=none:=cJ q3.I;have G:dY q3.I h4:=λb o e=>(sb4.2 b λz=>by rw[z]at e;exact nn (n3.symm.trans e)).trans (dU _ e)
  have lL:eE h4 q3.I.objs.size:=bS hn4.choose_spec.choose_spec.choose_spec.1;have E4:Ex q3 (q3.d' h4 (q2.s.toks+0) G q3.I.objs.size n3 lL):=q3.f' ..;have xa:=q2.r.d a _ x2.1;have fd:q1.I.get? q2.I.objs.size=none:=E2.d' id n2;have fL:q1.I.get? q3.I.objs.size=none:=E2.d' id (E3.d' id n3);have AV:a≠q2.I.objs.size:=λz=>by unfold eE at xa;rw[z,n2]at xa;exact ft xa
  have x7:a≠q3.I.objs.size:=λz=>by have:=E3.s a id xa;unfold eE at this;rw[z,n3]at this;exact ft this
  have GD:q2.I.objs.size≠q3.I.objs.size:=λz=>by have:q3.I.get? q2.I.objs.size=_:=g3;rw[z,n3]at this;exact nn this
  have x4:=(x2.bk' E3 id).bk' E4 id;have od:q3.W.d q2.I.objs.size=some (.d q2.I.objs.size,false):=Wd.O ..;have X8:=ER (iter':=iter') (pos:=pos) (RR:=RR (.ref q2.I.objs.size) q3.I.objs.size) Y E1 (E2.I (E3.I E4)) fa fd fL AV x7 GD x4 (E4.O od (λJ J=>nofun) λJ=>id) ((E4.c _ _ od id).trans g3) (Wd.O ..) hn4 (by
   show iC it q2.m<=_;rw[s2];exact of_decide_eq_true hl) (by
   show compLoop tgt it cQ _ _ (iC it q2.m+1) 0 [] q2.m kk;rw[s2];exact hc) λr xs ys m Z=>hR r xs ys m _ _ Z
  refine codeAny_compStart_list X8 (xR (p:=q3.d' h4 (q2.s.toks+0) G q3.I.objs.size n3 lL) ?_ X8);obtain⟨l,k,z⟩:=i2;have e:h4.get? a=q2.I.get? a:=(E4.c a a (E3.O x2.1 (λJ J=>nofun) λJ=>id) id).trans (E3.c a a x2.1 id)
  refine⟨l,k,z.imp (λ⟨o,g,w⟩=>⟨o,e.trans g,w⟩) λ⟨o,g,w⟩=>⟨o,e.trans g,w⟩⟩) (bI _)

variable{gF Hn:ME}
theorem CR.O(Z:CR p xs d L0 q ys m)(F:w6 p k Q)(hk:jT (.a xs) q.m k):compPost M A E none Q (.ref d) L0 (.ok .next) q.s:=by
 obtain⟨mm,hn⟩:=Z.s;refine⟨mm,hn,λh' hs=>?_⟩
 have E1:eY (λb=>b=L0) nj q (q.p' h' q.s.toks L0 Z.a hs.extBut):=q.x' ..
 exact F (q.p' h' q.s.toks L0 Z.a hs.extBut) (.a xs) d ((Z.E.e'.I E1).V (λb z=>.inr (z▸Z.n)) λJ f=>f) Z.u ⟨E1.O Z.h (λJ J=>nofun) λJ=>Z.i,⟨ys,m,(E1.c d d Z.h Z.i).trans Z.g,bR.G' E1 Z.V,Z.t⟩,rfl,rfl⟩ hk
theorem Gx(Y:CO K nms sl tgt cQ gF jF g7 mE scope t)(y:TE K nms sl fX iter')(he:aE K.a e=λloc s k=>aE K.a fX loc s λsV s=>rI tgt sV cQ (aE K.a gF) (gQ tgt loc) s k):SR K nms sl e (.ListComp jF [⟨g7,iter',mE,0⟩] scope pos):=⟨λX h P F=>by
 rw[he]at h
 show wpAny _ _ _ _ _ _;rw[eval_ListComp];refine wpAny_comprehension_free (use:=none) rfl (y.o.b X.a) (uE λp hp z=>X.g.b _ ((congrArg (List.lookup p.1) X.l).trans (Y.O.b p hp z))) Y.O.a Y.O.e (yt (RR:=λacc L0=>compPost K.C.I X.A _ none _ acc L0) Y y h λr xs ys m d L0 Z hk=>Z.O F hk)⟩
theorem TR.O(x:SR K nms sl e (.ListComp jF [⟨g7,iter',mE,0⟩] scope pos)):TR K nms sl e (.ListComp jF [⟨g7,iter',mE,0⟩] scope pos):=⟨x,λJ J=>rfl,⟨λJ J=>rfl,λJ J=>rfl,λJ J=>rfl⟩,λJ J J=>rfl,λh=>nomatch h⟩
theorem Gw(h1:nR nms scope t sl=true)(ht:lA tgt g7=some t)(y:TE K nms sl fX iter')(z:TE K (fH nms scope.names) (fq t nms scope.names sl) gF jF):TR K nms sl (.K gF tgt fX) (.ListComp jF [⟨g7,iter',[],0⟩] scope pos):=
 .O (Gx ⟨mG h1,ht,JO,z⟩ y rfl)
theorem BS(h1:nR nms scope t sl=true)(ht:lA tgt g7=some t)(y:TE K nms sl fX iter')(z:TE K (fH nms scope.names) (fq t nms scope.names sl) gF jF)(w:TE K (fH nms scope.names) (fq t nms scope.names sl) Hn Jh):TR K nms sl (.J gF tgt fX Hn) (.ListComp jF [⟨g7,iter',[Jh],0⟩] scope pos):=
 .O (Gx ⟨mG h1,ht,w.I,z⟩ y rfl)

variable{o i:ME}{r:Bool}
def nX(nms:Nm)(sl:Sl)(n:Str)(i:Nat):Bool:=Ed n sl==some i&&vH nms n
def FR{C:dX}(p:Pt C)(fl:Fl)(f:Flow):Prop:=Fl.casesOn fl (f=.next) (λv=>∃u,f=.ret u/\VM p v u) (f=.cont)
def LB(r:Bool)(n:Nat):Nat->Prop:=λl=>r=true/\l+1=n
abbrev vm(r:Bool)(env:Env){C:dX}(p q:Pt C):Prop:=eY (nQ env) (LB r p.m.a.length) p q
def GI(r:Bool)(x:FP K nms sl)(k:Fl->dj->St->Prop)(Q:Flow->Shared->Prop):Prop:=∀q loc fl f,vm r x.a x.p q->fk sl x.a q loc->FR q fl f->k fl loc q.m->Q f q.s
structure SX(K:Kt)(nms:Nm)(sl:Sl)(r:Bool)(st:MS)(ps:Stmt):Prop where
 a:∀{k:Fl->dj->St->Prop}{Q:Flow->Shared->Prop}{E:Value->Shared->Prop}(x:FP K nms sl),bf K.a st x.b x.p.m k->GI r x k Q->wpAny K.C.I x.A (exec ps x.a) Q E x.p.s
structure Fy(K:Kt)(nms:Nm)(sl:Sl)(r:Bool)(uF:nP)(ps:aaj):Prop where
 a:∀{k:Fl->dj->St->Prop}{Q:Flow->Shared->Prop}{E:Value->Shared->Prop}(x:FP K nms sl),ay K.a uF x.b x.p.m k->GI r x k Q->wpAny K.C.I x.A (execs ps x.a) Q E x.p.s
theorem eY.g'(x:Ex p q):vm r env p q:=x.e'
theorem GI.bq'{k:Fl->dj->St->Prop}{Q:Flow->Shared->Prop}(S:GI r X k Q)(E:vm r X.a X.p q)(L:fk sl X.a q loc):GI r (X.mv q loc L) k Q:=λq2 loc fl f E2=>S q2 loc fl f (E.I (by have E2:eY (nQ X.a) (LB r q.m.a.length) q q2:=E2;rw[E.m]at E2;exact E2))
theorem GI.ex{k:Fl->dj->St->Prop}{Q:Flow->Shared->Prop}(S:GI r X k Q)(E:Ex X.p q):GI r (X.I q E) k Q:=S.bq' E.g' _
theorem GI.bp'{k:Fl->dj->St->Prop}{Q:Flow->Shared->Prop}(S:GI r X k Q)(fl:Fl)(E:Ex X.p q){f:Flow}(F:FR q fl f)(h:k fl X.b q.m):Q f q.s:=S q X.b fl f E.g' (X.L.I E λJ J f=>f) F h
theorem WZ(x:TE K nms sl e pe):SX K nms sl r (.f e) (.Return (some pe) pos):=⟨λX he S=>wpAny_Return_some (x.v.a X he λq v u E V hk=>S.bp' (.b v) E ⟨u,rfl,V⟩ hk)⟩
theorem RO:SX K nms sl r .p (.Return none pos):=⟨λX he S=>wpAny_Return_none (S.bp' (.b (.a .h)) (.c' _) ⟨_,rfl,rfl⟩ he)⟩
theorem RQ:SX K nms sl r .w (.Continue pos):=⟨λX he S=>wpAny_Continue (S.bp' .c (.c' _) rfl he)⟩
theorem M0{ps:Stmt}:SX K nms sl r .j ps:=⟨λX he=>he.elim⟩
theorem RP(h1:kT pe=true)(x:TE K nms sl e pe):SX K nms sl r (.h e) (.Expr pe pos):=⟨λX he S=>wpAny_Expr_any (x.v.a X he λq v u E V hk=>S.bp' .a E rfl hk) (by unfold interactive;rw[X.g.a];rfl) (x.s h1 _ _ _)⟩
variable{a b uF:nP}{as bs GB:aaj}{st:MS}{ps:Stmt}
theorem W3(j:TE K nms sl e pe)(x:Fy K nms sl r a as)(y:Fy K nms sl r b bs):SX K nms sl r (.d e a b) (.If pe as bs pos):=⟨@λk Q E X he S=>wpAny_If (j.t.a X (k:=λv c s=>B9 (ay K.a b X.b s k) (ay K.a a X.b s k) c) he λq v c E1 e1 hk=>by
 induction c with
 |true=>exact x.a (X.I q E1) hk (S.ex E1)
 |false=>exact y.a (X.I q E1) hk (S.ex E1))⟩
theorem RN:Fy K nms sl r .c []:=⟨λX he S=>wpAny_execs_nil (S.bp' .a (.c' _) rfl he)⟩
theorem MY(x:SX K nms sl r st ps)(y:Fy K nms sl r uF GB):Fy K nms sl r (.a st uF) (ps::GB):=⟨@λk Q E X he S=>wpAny_execs_cons (x.a X he λq loc fl f E1 L F hk=>by
 induction fl with
 |a=>obtain rfl:=(show f=.next from F);exact y.a (X.mv q loc L) hk (S.bq' E1 L)
 |b v=>obtain⟨u,e,V⟩:=F;subst e;exact S q loc (.b v) _ E1 L ⟨u,rfl,V⟩ hk
 |c=>obtain rfl:=(show f=.cont from F);exact S q loc .c _ E1 L rfl hk)⟩

variable{oe ie:Expr}
theorem Qh{tg o:Expr}{p:Pos}{ln:Nat}:swapsWith tg (some (.Attribute o x p)) ln env=pure false:=by induction tg using Expr.casesOn<;>rfl
theorem UX{tg o i:Expr}{p:Pos}{ln:Nat}:swapsWith tg (some (.Subscript o i p)) ln env=pure false:=by induction tg using Expr.casesOn<;>rfl
theorem kg(X:FP K nms sl)(t:nX nms sl x j=true):sl.lookup x=some j/\(X.a.kindOf x=some .local\/X.a.kindOf x=some .cell):=by
 obtain⟨a,b⟩:=ak.mp t;refine⟨(zj ..).symm.trans (eq_of_beq a),?_⟩;have e:X.a.kindOf x=jO x nms:=by unfold Env.kindOf;rw[X.l,kh]
 rw[e];exact(AM b).imp eq_of_beq eq_of_beq
theorem A3(X:FP K nms sl)(ht:(t.all λp=>nX nms sl p.1 p.2)=true):qJ X.a sl (nQ X.a) t:=
 have k:=λp hp=>kg X (aJ.mp ht p hp)
 ⟨λp hp=>(k p hp).1,λp hp=>(k p hp).2,λJ J J=>.inl rfl,λp J c J hc=>.inr ⟨p.1,hc⟩⟩
theorem FP.d'{Q:Unit->Shared->Prop}(X:FP K nms sl)(t:nX nms sl x j=true)(E1:Ex X.p q)(V:VM q v u)(h:∀q2,vm r X.a X.p q2->fk sl X.a q2 (X.b.set j (some v))->q2.m=q.m->Q () q2.s):wpAny K.C.I X.A (storeName X.a x u) Q E q.s:=p5 (D:=nQ X.a) X.g (X.L.I E1 λJ J f=>f) X.n (kg X t).1 (kg X t).2 (λJ=>.inl rfl) (λc J hc=>.inr ⟨x,hc⟩) V λq2 E2 s2 L=>h q2 (E1.e'.I (E2.V (λJ d=>.inl d) λJ f=>f.elim)) L s2
theorem Iu(h1:nX nms sl x j=true)(h2:kT pe=true)(y:TE K nms sl e pe):SX K nms sl r (.c j e) (.Assign [.Name x np] pe pos):=⟨λX he S=>wpAny_Assign_Name (y.v.a X he λq v u E V hk=>X.d' h1 E V λq2 E2 L s2=>S q2 _ .a _ E2 L rfl (s2▸hk)) (y.s h2 _ _ _)⟩
theorem E8(H:Hy K){p:Pos}(h1:gP x (K.N.a name)=true)(y:TE K nms sl o oe)(z:TE K nms sl e pe):SX K nms sl r (.g o name e) (.Assign [.Attribute oe x p] pe pos):=⟨λX he S=>by
 obtain rfl:=dW.mp h1;refine plainObj_wpAny_Assign_Attribute (z.v.a X he λq v u E V hk=>y.v.a (X.I q E) hk λq2 ov u2 E2 V2 hk=>?_) Qh
 rw[H.B.g];exact ux H.B.b H.B.a V2 (V.ab' E2) hk λq3 J E3 hk=>S.bp' .a (E.I (E2.I E3)) rfl hk⟩
theorem E7{p:Pos}(y:TE K nms sl o oe)(w:TE K nms sl i ie)(z:TE K nms sl e pe):SX K nms sl r (.l o i e) (.Assign [.Subscript oe ie p] pe pos):=⟨λX he S=>wpAny_Assign_Subscript (z.v.a X he λq v u E V hk=>y.v.a (X.I q E) hk λq2 ov u2 E2 V2 hk=>w.v.a (X.I q2 (E.I E2)) hk λq3 iv u3 E3 V3 hk=>Ce X.i.I (V2.ab' E3) V3 ((V.ab' E2).ab' E3) hk λq4 J E4 hk=>S.bp' .a (E.I (E2.I (E3.I E4))) rfl hk) UX⟩

variable{Xg:Operator}
noncomputable def AN:vn->Bool
 |.a=>true|.e=>true|.d=>true|.b=>true|_=>false
theorem uy{a b z:Int}{t t':Tok}(ho:AN op=true)(e:nA op a b=some z)(H:∀tk t,Q (.int z t) {p.s with toks:=tk}):wpAny K.C.I A (inplaceOp (xg op) (.int a t) (.int b t')) Q E p.s:=by
 induction op<;>first|exact nomatch (show false=true from ho)|skip
 .obtain rfl:=si e;exact PyProof.Rows.iadd_int (H _ _)
 .obtain rfl:=si e;exact PyProof.Rows.isub_int (H _ _)
 .obtain rfl:=si e;exact PyProof.Rows.iand_int (H _ _)
 .obtain rfl:=si e;exact PyProof.Rows.ior_int (H _ _)
theorem W5(h0:(Xg==xg op)=true)(h1:AN op=true)(h2:nX nms sl x j=true)(y:TE K nms sl e pe):SX K nms sl r (.r j op e) (.AugAssign (.Name x np) Xg pe pos):=⟨λX he S=>Uj he λw hl he=>iS he λw' ew he=>pB he λa ea he=>by
 obtain rfl:=eq_of_beq h0;refine wpAny_AugAssign_Name (X.L.e' X.g (kg X h2).1 hl λu V=>y.v.a X he λq v u2 E V2 hk=>iS hk λv' ev hk=>pB hk λb eb hk=>dh hk λz ez Oi=>?_)
 subst ew ea ev eb;obtain⟨t,et⟩:=V;obtain⟨t2,et2⟩:=V2;rw[et,et2];exact uy h1 ez λtk t3=>X.d' (q:=q.tk tk) h2 (E.I (q.O tk)) (v:=.a (.d z)) ⟨t3,rfl⟩ λq2 E2 L s2=>S q2 _ .a _ E2 L rfl (s2▸Oi)⟩
theorem Fb{is:S5}{es:WB}{p:Pos}(ht:lA (.inr is) (.Tuple es kk p)=some t)(h2:(t.all λp=>nX nms sl p.1 p.2)=true)(hs:∀env,swapsWith pe (some (.Tuple es kk p)) pos.line env=pure false)(hw:∀env,swappedStores [.Tuple es kk p] pe env=pure none)(y:TE K nms sl e pe):SX K nms sl r (.u is e) (.Assign [.Tuple es kk p] pe pos):=⟨λX he S=>Assign_Tuple (y.v.a X he λq v u E V hk=>vS (D:=nQ X.a) X.i.b X.g X.n (X.L.I E λJ J f=>f) ht (A3 X h2) V hk λq2 loc E2 s2 L2 hk=>S q2 _ .a _ (E.e'.I (E2.V (λJ d=>.inl d) λJ f=>f.elim)) L2 rfl (s2▸hk)) (hs X.a) (hw X.a)⟩

theorem E9(H:Hy K)(h0:(Xg==xg op)=true)(h1:AN op=true)(h2:gP x (K.N.a name)=true)(z:TE K nms sl o oe)(y:TE K nms sl e pe):SX K nms sl r (.v o name op e) (.AugAssign (.Attribute oe x np) Xg pe pos):=⟨λX he S=>by
 obtain rfl:=eq_of_beq h0;obtain rfl:=dW.mp h2;rw[H.B.g];refine wpAny_AugAssign_AttributeAny (z.v.a X he λq ov u E V hk=>iS hk λow eo hk=>uz H.B.b H.B.a (IA eo V) hk λw u2 t V2 hk=>pB hk λa ea hk=>y.v.a (X.I (q.tk t) (E.I (q.O t))) hk λq2 v2 u3 E2 V3 hk=>iS hk λv' ev hk=>pB hk λb eb hk=>dh hk λz ez Oh=>?_)
 subst ea ev eb;have V2':=VR.v' ((q.O (D:=Ah) (B:=nj) t).I E2) V2;obtain⟨t1,e1⟩:=V2';obtain⟨t2,e2⟩:=V3;rw[e1,e2];exact uy h1 ez λtk t3=>ux (p:=q2.tk tk) (v:=.a (.d z)) H.B.b H.B.a (V.ab' (((q.O (D:=Ah) t).I E2).I (q2.O tk))) ⟨t3,rfl⟩ Oh λq3 J E3 hk=>S.bp' .a (E.I ((q.O t).I (E2.I ((q2.O tk).I E3)))) rfl hk⟩
theorem vm.br'{p q s:Pt C}(x:vm r env p q)(y:vm r env q s):vm r env p s:=by
 have y':eY (nQ env) (LB r q.m.a.length) q s:=y;rw[x.m]at y'
 exact eY.I x y'
theorem MZ(j:TE K nms sl e pe)(x:Fy K nms sl r a as):SX K nms sl r (.m e a) (.While pe as [] pos):=⟨@λk Q E X he S=>by
 refine wpAny_While (codeAny_whileLoop (I:=λf s'=>∃loc p,s'=p.s/\fk sl X.a p loc/\vm r X.a X.p p/\ee (aE K.a e) (ay K.a a) f loc p.m k) ?_ 50000 ⟨X.b,X.p,rfl,X.L,.c' _,he⟩)
 rintro f J ⟨loc,p,rfl,L,E1,he⟩
 induction f using iV with
 |zero=>exact he.elim
 |succ f=>
  refine j.t.a (X.mv p loc L) (k:=λv c s=>B9 (k .a loc s) (ay K.a a loc s λfl loc s=>lb fl (ee (aE K.a e) (ay K.a a) f loc s k) (k fl loc s)) c) he λq v c E2 J hk=>?_
  have L2:=L.I E2 λJ J f=>f
  have PL:=vm.br' E1 (eY.g' (r:=r) (env:=X.a) E2)
  induction c with
  |false=>exact wpAny_execs_nil (S q loc .a _ PL L2 rfl hk)
  |true=>
   refine x.a (X.mv q loc L2) hk λq3 EE fl f3 E3 L3 F Oi=>?_
   induction fl with
   |a=>obtain rfl:=(show f3=.next from F);exact⟨f,bD f,EE,q3,rfl,L3,vm.br' PL E3,Oi⟩
   |c=>obtain rfl:=(show f3=.cont from F);exact⟨f,bD f,EE,q3,rfl,L3,vm.br' PL E3,Oi⟩
   |b w=>obtain⟨u,eu,V⟩:=F;subst eu;exact S q3 EE (.b w) _ (vm.br' PL E3) L3 ⟨u,rfl,V⟩ Oi⟩

structure TQ(K:Kt)(nms:Nm)(sl:Sl)(mi:PK)(pe:Expr):Prop where
 b:∀env x,foldedSetIterable pe env x=pure x
 c:∀{k:It->St->Prop}{Q:Value->Shared->Prop}{E:Value->Shared->Prop}(x:FP K nms sl),bh K.a mi x.b x.p.m k->(∀q a it,Ex x.p q->x.p.I.get? a=none->w5 q a 0 it->k it q.m->Q (.ref a) q.s)->x.O (eval pe x.a) (λv cu=>wpAny K.C.I x.A (pyIter v) Q E cu) E
theorem M1(x:TE K nms sl e pe):TQ K nms sl (.a e) pe:=⟨x.o.b,λX he H=>x.v.a X he λq v u E V hk=>dh hk λit hm hk=>A8 V hm λq2 a E2 fa s2 x2 J=>H q2 a it (E.I E2) (E.d' id fa) x2 (s2▸hk)⟩
structure Zf(X:FP K nms sl)(i:Addr)(it:It)(g:Nat->Nat->dj->St->Prop)(f:Nat)(s':Shared)(n:Nat)(loc:dj)(p:Pt K.C):Prop where
 c:s'=p.s
 L:fk sl X.a p loc
 E:eY (λb=>nQ X.a b\/b=i) nj X.p p
 x:w5 p i n it
 a:g f n loc p.m
theorem eY.j'(x:vm false env p q):eY (nQ env) nj p q:=x.V (λJ d=>.inl d) λJ h=>nomatch h.1
theorem Zf.I{i:Addr}(x:eY (λb=>nQ X.a b\/b=i) nj X.p q)(fa:X.p.I.get? i=none):vm r X.a X.p q:=x.V (λb d=>d.elim .inl λz=>.inr (z▸fa)) λJ f=>f.elim
theorem W4{mi:PK}(y:TQ K nms sl mi pe)(ht:lA tgt g7=some t)(h2:(t.all λp=>nX nms sl p.1 p.2)=true)(x:Fy K nms sl false a as):SX K nms sl r (.k tgt mi a) (.For g7 pe as [] pos):=⟨@λk Q E X he S=>by
 refine wpAny_For (y.c X he λq0 i it E0 fa x0 hk=>?_) (y.b _)
 refine Cr (I:=λf s'=>∃n loc p,Zf X i it (λf n loc s=>forLoop tgt it (ay K.a a) f n loc s k) f s' n loc p) ?_ (iC it q0.m+1) ⟨0,X.b,q0,rfl,X.L.I E0 λJ J f=>f,E0.e',x0,hk⟩
 rintro f J ⟨n,loc,p,rfl,L,E1,x1,he⟩
 induction f using iV with
 |zero=>exact he.elim
 |succ f=>
  refine dh he λo ho he=>A7 X.i.b x1 ho λq u E2 s2 c1 c0=>?_
  have L2:=L.I E2 (L.O x1);have PL:=E1.I (E2.V (λb z=>.inl (.inr z)) λJ f=>f)
  induction o with
  |none=>obtain rfl:=c0 rfl;exact wpAny_execs_nil (S q loc .a _ (Zf.I PL fa) L2 rfl (s2▸he))
  |some v=>
   obtain⟨u',eu,V,x2⟩:=c1 v rfl;subst eu;have hfa:¬nQ X.a i:=λf=>L2.O x2 i f rfl
   have hb:eU tgt (.a v) loc λloc=>ay K.a a loc p.m λfl loc s=>lb fl (forLoop tgt it (ay K.a a) f (n+1) loc s k) (k fl loc s):=he
   refine sq x2 (vS (D:=nQ X.a) X.i.b X.g X.n L2 ht (A3 X h2) (v:=.a v) V hb λq3 EE E3 s3 L3 Oi=>?_)
   refine x.a (X.mv q3 EE L3) (by show ay K.a a EE q3.m _;rw[s3,s2];exact Oi) λq4 Ui fl f4 E4 L4 F Oh=>?_
   have pz:=E3.I (eY.j' E4);have pE:=PL.I (pz.V (λb z=>.inl (.inl z)) λJ f=>f)
   induction fl with
   |a=>obtain rfl:=(show f4=.next from F);exact⟨f,bD f,n+1,Ui,q4,rfl,L4,pE,x2.bk' pz hfa,Oh⟩
   |c=>obtain rfl:=(show f4=.cont from F);exact⟨f,bD f,n+1,Ui,q4,rfl,L4,pE,x2.bk' pz hfa,Oh⟩
   |b w=>obtain⟨u,eu,V⟩:=F;subst eu;exact S q4 Ui (.b w) _ (Zf.I pE fa) L4 ⟨u,rfl,V⟩ Oh⟩

theorem FR.bs'{fl:Fl}{f:Flow}(x:eY D nj p q)(F:FR p fl f):FR q fl f:=by
 induction fl with
 |b v=>obtain⟨u,e,V⟩:=F;exact⟨u,e,V.ab' x⟩
 |_=>exact F
theorem WY{f0:Stmt}{hs:List ExceptHandler}(x:Fy K nms sl r a as)(y:Fy K nms sl false b (f0::bs)):SX K nms sl r (.n a b) (.Try as hs [] (f0::bs) pos):=⟨@λk Q E X he S=>by
 have zQ:∀{E':Value->Shared->Prop}{q loc fl f},vm r X.a X.p q->fk sl X.a q loc->FR q fl f->(ay K.a b loc q.m λg loc s=>fb g (k fl loc s) False)->wpAny K.C.I X.A (execs (f0::bs) X.a) (λg s'=>match g with|.next=>Q f s'|g=>Q g s') E' q.s:=λ{E' q loc fl f} E1 L F hk=>
  y.a (X.mv q loc L) hk λq2 y4 g g' E2 L2 G I4=>by
   induction g with
   |a=>
    obtain rfl:=(show g'=.next from G)
    exact S q2 y4 fl f (vm.br' E1 ((eY.j' E2).V (λJ d=>.inl d) λJ f=>f.elim)) L2 (F.bs' (eY.j' E2)) I4
   |_=>exact(show False from I4).elim
 have go:∀{E' E'' E0:Value->Shared->Prop},wpAny K.C.I X.A (execs as X.a) (λf cu=>match f with
   |.next=>wpAny K.C.I X.A (execs [] X.a)
     (λf' ju=>wpAny K.C.I X.A (execs (f0::bs) X.a) (λg s'=>match g with|.next=>Q f' s'|g=>Q g s') E' ju) E'' cu
   |f=>wpAny K.C.I X.A (execs (f0::bs) X.a) (λg s'=>match g with|.next=>Q f s'|g=>Q g s') E' cu) E0 X.p.s:=λ{E' E'' E0}=>
  x.a X he λq loc fl f E1 L F hk=>by
   induction f with
   |next=>exact wpAny_execs_nil (zQ E1 L F hk)
   |_=>exact zQ E1 L F hk
 induction hs using aQ with
 |nil=>exact wpAny_Try_finally go
 |cons h0 hs=>exact wpAny_Try_except_finally go⟩
theorem ZG{k:It->St->Prop}{s:St}(h:Up (λJ s k=>k v s) [] s k)(k1:∀vs,v=.a (.j vs)->k (.a vs.reverse) s->G):G:=by
 induction v with
 |a v=>induction v using PV.casesOn with
  |j vs=>exact k1 vs rfl h
  |_=>exact(show False from h).elim
 |_=>exact(show False from h).elim
theorem JY{p:Pt C}{o:Obj}{tk:Nat}(S:∀q a,Ex p q->p.I.get? a=none->q.m=p.m->q.W.d a=some (.d a,false)->q.I.get? a=some o->Q (.ref a) q.s)(g:(p.I.push o).get? p.I.objs.size=some o):Q (.ref p.I.objs.size) {p.s with heap:=p.I.push o,toks:=tk}:=S (p.d' (p.I.push o) tk (dY.aj' _ _) p.I.objs.size (cJ _) (bS g)) p.I.objs.size (p.f' ..) (cJ _) rfl (Wd.O ..) g
theorem RS(H:Hy K)(h1:gP x "reversed"=true)(h2:fQ nms x=true)(h3:iy x=true)(y:TE K nms sl e pe):TQ K nms sl (.c e) (.Call (.Name x np) [pe] [] pos):=⟨λJ J=>rfl,@λk Q E0 X he S=>by
 obtain rfl:=dW.mp h1;refine PySem.wpAny_Call_NameR (X.f' H h2 h3 H.B.r (p7 ((y.o.a [] _).trans rfl) (wpAny_items_cons (y.v.a X he λq v u E V hk=>wpAny_items_nil ⟨⟨q.e',qb "reversed"⟩,ZG hk λvs ev hk=>?_⟩) (y.o.a [] X.a))))
 obtain⟨l,items,n,ea,i,rr,z⟩:=IA ev V;rw[ea];refine call_reversed_list ⟨_,i.2,rfl,n,rfl⟩ (JY (tk:=q.s.toks) (Q:=λv s=>wpAny K.C.I X.A (pyIter v) Q E0 s) (λq2 a E2 fa s2 oa g=>wpAny_pyIter_revIter ⟨_,g,rfl,rfl⟩ (S q2 a (.a vs.reverse) (E.I E2) (E.d' id fa) ⟨oa,.inr ⟨l,items,n,E2.j _ _ i,?_,bR.G' E2 (by rw[List.reverse_reverse];exact rr),bI _⟩⟩ (s2▸hk))) (bq _ rfl))
 rw[cM,bR.F' rr,show(items.size:Int)-1-((0:Nat):Int)=(items.size:Int)-1 from Int.sub_zero _]
 exact⟨_,g,rfl,rfl⟩⟩

theorem Iv(H:Hy K)(h1:gP x "range"=true)(h2:fQ nms x=true)(h3:iy x=true)(y:TE K nms sl e pe):TQ K nms sl (.b e) (.Call (.Name x np) [pe] [] pos):=⟨λJ J=>rfl,@λk Q E0 X he S=>by
 obtain rfl:=dW.mp h1;refine PySem.wpAny_Call_NameR (X.f' H h2 h3 H.B.s (p7 ((y.o.a [] _).trans rfl) (wpAny_items_cons (y.v.a X he λq v u E V hk=>wpAny_items_nil ⟨⟨q.e',qb "range"⟩,iS hk λw ew hk=>pB hk λj ej hk=>fj hk λhj Oh=>?_⟩) (y.o.a [] X.a))))
 obtain⟨YV,hj1⟩:=of_decide_eq_true hj;subst ej;obtain⟨t,et⟩:=IA ew V;rw[et];refine call_range_1 (wpAny_pyIter_range (IsRange.new ..) (small_one (by decide) (by decide) (i8 (by decide) YV) (Int.lt_trans hj1 (by decide))) ?_)
 have ix:Builtin.Range.rangeSize 0 j 1=(j.toNat:Int):=by
  rw[rangeSize_one];by_cases z:0<j
  .rw[if_pos z,y9 YV,Int.sub_zero]
  .rw[if_neg z,y9 YV];exact Int.le_antisymm YV (jW.mp z)
 refine JY (Q:=Q) (p:=q.m' (q.I.push {cls:=.type "range",data:=.fields #[.int 0 q.s.toks,.int j t,.int 1 (q.s.toks+1)]}) q.s.toks (dY.aj' _ _)) (λq2 a E2 fa s2 oa g=>S q2 a (.c j.toNat) (E.I ((q.g' ..).I E2)) (E.d' id ((q.g' (D:=Ah) (B:=nj) ..).d' id fa)) ⟨oa,?_,bI _⟩ (s2▸Oh)) (bq _ rfl)
 rw[show((j.toNat:Int)-((0:Nat):Int))=Builtin.Range.rangeSize 0 j 1 by rw[ix];exact Int.sub_zero _]
 exact g⟩
theorem MW:TE K nms sl .M (.Dict [] [] pos):=SE.I ⟨λX he KK=>wpAny_Dict_empty (by have g:(X.p.I.push (dictOf [] 0)).get? X.p.I.objs.size=some (dictOf [] 0):=bq _ rfl;exact KK.tn (q:=X.p.d' _ X.p.s.toks (dY.aj' _ _) X.p.I.objs.size (cJ _) (bS g)) (X.p.f' ..) (cJ _) (rU.aN' (q:=X.p.d' _ X.p.s.toks (dY.aj' _ _) X.p.I.objs.size (cJ _) (bS g)) (c:=.e true []) ⟨Wd.O ..,⟨_,[],g,⟨⟨rfl,rfl,rfl⟩,#[],0,rfl,rfl,.nil⟩,rfl,(λx hx=>nomatch hx),rfl,bI _⟩,rfl,rfl⟩ he))⟩ (λJ J=>rfl) ⟨λJ J=>rfl,λJ J=>rfl,λJ J=>rfl⟩ (λJ J J=>rfl) λJ J J J=>rfl

variable{lp:Pos}
theorem CR.I(Z:CR X.p xs d L0 q ys m)(h1:nX nms sl x j=true)(T:Tn q d k)(S:∀q2 v,vm r X.a X.p q2->fk sl X.a q2 (X.b.set j (some v))->k v q2.m->Q .none q2.s):
  compPost K.C.I X.A E (some (assign (.Name x np) X.a)) Q (.ref d) L0 (.ok .next) q.s:=T λq' v es E1 V hk=>by
 obtain⟨mm,hn⟩:=Z.s;have nL:¬nQ X.a L0:=λf=>by have l:=X.p.r.d L0 _ (X.L.r L0 f);unfold eE at l;rw[Z.n]at l;exact ft l
 have dL:L0≠d:=Z.i.symm;have E2:Ex X.p q':=Z.E.f' E1 λb z=>.inr (z▸Z.u)
 have o1:=E1.O Z.a (λJ J=>nofun) λJ=>dL
 rw[<-es];refine wpAny_assign_Name (p5 (D:=nQ X.a) X.g (X.L.I E2 λJ J f=>f) X.n (kg X h1).1 (kg X h1).2 (λJ=>.inl rfl) (λc J hc=>.inr ⟨x,hc⟩) V λq2 E3 s2 L=>?_)
 have o2:=E3.O o1 (λJ J=>nofun) λJ=>nL
 have g2:q2.I.get? L0=q.I.get? L0:=(E3.c L0 L0 o1 nL).trans (E1.c L0 L0 Z.a dL);refine⟨mm,hn.at λo e=>g2.trans e,λh' hs=>?_⟩
 have E4:eY (λb=>b=L0) nj q2 (q2.p' h' q2.s.toks L0 o2 hs.extBut):=q2.x' ..
 exact S (q2.p' h' q2.s.toks L0 o2 hs.extBut) v (((E2.e'.f' E3 λb z=>.inl z).f' E4 λb z=>.inr (z▸Z.n)).V (λJ z=>.inl z) λJ z=>z.elim) (L.I E4 λb f z=>nL (z▸f)) (by show k v q2.m;rw[s2];exact hk)
theorem wN(m:(MV->St->Prop)->MV->St->Prop)(hm:∀{q:Pt K.C}{c a k},rU q c a->jT c q.m (m k)->Tn q a k)(h1:nX nms sl x j=true)(z:TE K nms sl e (.ListComp jF [⟨g7,iter',mE,0⟩] scope lp))(Y:CO K nms sl tgt cQ gF jF g7 mE scope t)(y:TE K nms sl fX iter')
  (he:∀loc s k,aE K.a e loc s k=aE K.a fX loc s λsV s=>rI tgt sV cQ (aE K.a gF) (gQ tgt loc) s (m k)):SX K nms sl r (.c j e) (.Assign [.Name x np] (.ListComp jF [⟨g7,iter',mE,0⟩] scope lp) pos):=⟨@λk Q E X h S=>by
 change aE K.a e X.b X.p.m (λv s=>k .a (X.b.set j (some v)) s)at h
 induction hs:(X.a.blockKind== .function&&X.a.kindOf x==some .local&&np.line==lp.line&& !(scope.names.any λ(n,k)=>n==x&&(k== .local||k== .cell)))with
 |false=>exact wpAny_Assign_Name (z.v.a X h λq v u E V hk=>X.d' h1 E V λq2 E2 L s2=>S q2 _ .a _ E2 L rfl (s2▸hk)) (congrArg (pure (f:=Sem)) hs)
 |true=>
  rw[exec_Assign_Name_used _ _ _ _ (show swapsWith (.ListComp jF [⟨g7,iter',mE,0⟩] scope lp) (some (.Name x np)) pos.line X.a=pure true from congrArg (pure (f:=Sem)) hs)]
  refine wpAny_bind (wpAny_standAt (wpAny_bind ?_));show wpAny _ X.A (do let _<-comprehension (.ListComp jF [⟨g7,iter',mE,0⟩] scope lp) scope X.a (firstIterPos [⟨g7,iter',mE,0⟩] lp) (newList []) (firstAsync [⟨g7,iter',mE,0⟩]) (firstIter [⟨g7,iter',mE,0⟩] X.a) (some (assign (.Name x np) X.a))) _ _ X.p.s
  rw[he]at h
  exact wpAny_bind (wpAny_comprehension_free (use:=some (assign (.Name x np) X.a)) rfl (y.o.b X.a) (uE λp hp z=>X.g.b _ ((congrArg (List.lookup p.1) X.l).trans (Y.O.b p hp z))) Y.O.a Y.O.e (yt (RR:=λacc L0=>compPost K.C.I X.A E (some (assign (.Name x np) X.a)) _ acc L0) Y y h λr xs ys m d L0 Z hk=>Z.I h1 (hm (c:=.a xs) ⟨Z.h,⟨ys,m,Z.g,Z.V,Z.t⟩,rfl,rfl⟩ hk) λq2 v E2 L hk=>wpAny_pure (wpAny_pure (S q2 _ .a _ E2 L rfl hk))))⟩

section
variable{C:dX}{D:Addr->Prop}{B:Nat->Prop}{p q:Pt C}{W:Wd}{P:Pl}{b:Addr}{k:Pl×Bool}
open Classical in
def Wd.un(W:Wd)(U:Pl->Prop):Wd:=⟨λb=>if∃k,W.d b=some k/\U k.1 then none else W.d b,W.f⟩
variable{U:Pl->Prop}
theorem kR(e:(W.un U).d b=some k):W.d b=some k/\¬U k.1:=by
 unfold Wd.un at e
 dsimp only at e
 split at e
 .exact nn e
 .rename_i h;exact⟨e,λz=>h ⟨k,e,z⟩⟩
theorem lV(e:W.d b=some k)(n:¬U k.1):(W.un U).d b=some k:=by unfold Wd.un;dsimp only;rw[if_neg λ⟨k',h,z⟩=>n (by rw[e]at h;exact aq h▸z),e]
theorem zc(e:W.d b=none):(W.un U).d b=none:=by unfold Wd.un;dsimp only;rw[e,ite_self]
abbrev XE(U:Pl->Prop):Prop:=∀P,U P->∃l j,P=.b l j
theorem zd(hU:XE U){h:Heap}:g9 W h (W.un U) h:=
 have n:∀P,(∀l j,P≠ .b l j)->¬U P:=λP h u=>let⟨l,j,e⟩:=hU P u;h l j e
 ⟨λb o x=>⟨zc x.1,x.2⟩,λb i x=>lV x (n _ λJ J=>nofun),λb i x=>⟨lV x (n _ λJ J=>nofun),rfl⟩⟩
def Pt.un(p:Pt C)(U:Pl->Prop)(hU:XE U):Pt C:=⟨p.W.un U,p.s,p.m,p.r.O (zd hU) (λb c k x=>lV x λu=>nomatch hU _ u) (λa b k e1 e2=>p.r.f a b k (kR e1).1 (kR e2).1) (λa k e=>p.r.d a k (kR e).1) (λa t x e=>p.r.g a t x (kR e).1)
 λa P x e=>.inl ⟨(kR e).1,λb y e2=>⟨lV e2 (kR e).2,rfl⟩,λc e3=>⟨c,e3,.inl rfl⟩⟩⟩
theorem Pt.A'(hU:XE U)(hB:∀l j,U (.b l j)->B l):eY D B p (p.un U hU):=⟨rfl,λb o x=>⟨zc x.1,x.2⟩,λb k e=>by
  by_cases h:U k.1
  .obtain⟨l,j,e⟩:=hU _ h;exact .inr (.inr (.inl ⟨l,j,e,hB l j (e▸h)⟩))
  .exact .inl (lV e h),λJ J J J=>rfl,λJ J J J=>rfl,λJ z=>.inl z,rfl,λJ J z=>z⟩
theorem CN{pm:V6}{ni:S1}{r:V6}{rr:V5}{j:Nat}{c d:ah}(n:P≠ .b rr.length j)(e:aW W ⟨pm,r::rr,ni⟩ P=some d):aW W ⟨pm,r.set j c::rr,ni⟩ P=some d:=by
 induction P with
 |b l i=>
  change(r::rr).reverse[l]?.bind (·[i]?)=some d at e
  show(r.set j c::rr).reverse[l]?.bind (·[i]?)=some d;rw[fM]at e⊢
  rcases ry l rr.reverse.length with z|z|z
  .rw[aZ z]at e⊢;exact e
  .subst z;rw[bu]at e⊢
   exact(bG λz=>n (by rw[z,cM])).trans e
  .rw[aV (by rw[aa];exact z)]at e;exact nn e
 |_=>exact e
end
section
variable{K:Kt}{nms:Nm}{sl:Sl}{p q:Pt K.C}{X:FP K nms sl}{pos:Pos}{e:ME}{pe:Expr}{x:Str}{i:Nat}{np:Pos}
theorem Bf{v:MV}{loc:dj}{s:St}{k:St->Prop}{G:Prop}(h:zw i v loc s k)(go:∀j,loc[i]?=some (some (.b 0 j))->(loc.set i none).all (yJ j)=true->Es v s (λc s=>gb (Nat.blt j (s.a.headD []).length) (k (pA s (.b 0 j) c)))->G):G:=
 Uj h λo eo h=>by
  induction o with
  |b d j=>
   induction d using iV with
   |zero=>exact fj h λhn h=>go j eo hn h
   |succ d=>exact h.elim
  |_=>exact h.elim
theorem GR{c:ah}{a:Addr}{pm:V6}{r:V6}{rr:V5}{ni:S1}{j:Nat}{B:Nat->Prop}(st:q.m=⟨pm,r::rr,ni⟩)(hj:j<r.length)(hB:B rr.length)(R:rU q c a):
  ∃q3:Pt K.C,q3.s=q.s/\q3.m=⟨pm,r.set j c::rr,ni⟩/\eY (λb=>b=a) B q q3/\q3.W.d a=some (.b rr.length j,false)/\∀b k,q.W.d b=some k->b≠a->k.1≠ .b rr.length j->q3.W.d b=some k:=by
 obtain⟨W,s,cU,rel⟩:=q;subst st;have hU:XE (λP=>P=.b rr.length j):=λP e=>⟨_,_,e⟩
 have oa:(W.un (λP=>P=.b rr.length j)).d a=some (.d a,false):=lV R.1 nofun
 let q2:Pt K.C:=Pt.un ⟨W,s,⟨pm,r::rr,ni⟩,rel⟩ (λP=>P=.b rr.length j) hU
 have hk:∀b P x,some (Pl.b rr.length j,false)=some (P,x)->q2.W.d b≠some (P,x):=λb P x e z=>by obtain⟨rfl,rfl⟩:=u7 e;exact(kR (W:=W) (U:=λP=>P=.b rr.length j) z).2 rfl
 let q3:Pt K.C:=q2.o' a oa (some (.b rr.length j,false)) q2.W.f ⟨pm,r.set j c::rr,ni⟩ (λJ J J J=>rfl) hk (λt x e=>nomatch e) (λP x e=>by obtain⟨rfl,rfl⟩:=u7 e;exact⟨c,pJ.trans (bJ hj),λJ=>R.2.1.re ((zd hU).I (v7 oa _)) rfl R.2.2.1 R.2.2.2⟩) λb P x e c e2=>⟨c,CN (kR (W:=W) (U:=λP=>P=.b rr.length j) e).2 e2,.inl rfl⟩
 have E3:eY (λb=>b=a) B q2 q3:=Pt.u' _ _ _ _ _ _ _ _ _ _ (λk g=>by
  by_cases h:k=.b rr.length j
  .exact .inr ⟨_,_,h,hB⟩
  .induction k with
   |b l i=>exact .inl (CN (W:=W) h g)
   |_=>exact g.elim) rfl
 exact⟨q3,rfl,rfl,(Pt.A' hU λl i e=>by cases e;exact hB).I E3,Wd.O ..,λb k e n h=>(Wd.J _ _ n).trans (lV (U:=λP=>P=.b rr.length j) e h)⟩
theorem Cj{c:ah}{st:St}{loc:dj}{k:St->Prop}{G:Prop}(h:jT c st λv s=>zw i v loc s k)(go:∀pm r rr ni j,st=⟨pm,r::rr,ni⟩->loc[i]?=some (some (.b 0 j))->(loc.set i none).all (yJ j)=true->j<r.length->k ⟨pm,r.set j c::rr,ni⟩->G):G:=by
 obtain⟨pm,rg,ni⟩:=st
 induction rg using aQ with
 |nil=>exact h.elim
 |cons r rr=>
  refine Bf (v:=.b 0 r.length) (s:=⟨pm,(r++[c])::rr,ni⟩) h λj ej hn h=>?_
  change gb (Nat.beq (r.length+1) (r++[c]).length) (ob (r++[c])[r.length]? λc'=>gb (Nat.blt j (r++[c]).dropLast.length) (k ⟨pm,(r++[c]).dropLast.set j c'::rr,ni⟩))at h
  refine fj h λJ h=>?_
  rw[bu,g5]at h
  exact fj h λhj h=>go pm r rr ni j rfl ej hn (Nat.blt_eq.mp hj) h
theorem fk.f'{env:Env}{D:Addr->Prop}{B:Nat->Prop}{q3:Pt K.C}{loc:dj}{j l:Nat}{a:Addr}(L:fk sl env q loc)(E:eY D B q q3)(hD:∀b,nQ env b->¬D b)(hn:(loc.set i none).all (yJ j)=true)(hl:q.m.a.length=l+1)(ha:∀k,q.W.d a=some k->∃t,k.1=.d t)
  (hg:∀k,k≠ .b l j->jU q.m k->jU q3.m k)(ho:∀b k,q.W.d b=some k->b≠a->k.1≠ .b l j->q3.W.d b=some k):fk sl env q3 (loc.set i none):=by
 have kl:∀b,nQ env b->q3.I.get? b=q.I.get? b:=λb f=>E.c b b (L.r b f) (hD b f)
 obtain⟨m,hm,hv⟩:=L.F;refine⟨λb f=>E.O (L.r b f) (λJ J=>nofun) λJ=>hD b f,λn c e=>?_,L.G,m,hm.at λo e=>(kl _ (.inl rfl)).trans e,λn i' v e1 e2=>?_⟩
 .obtain⟨⟨v,hv⟩,sW⟩:=L.s n c e;exact⟨⟨v,IsCell.I (kl c (.inr ⟨n,e⟩)) hv⟩,sW⟩
 .have sW:i≠i':=λz=>by
   rw[z,List.getElem?_set_self']at e2
   induction h:loc[i']? <;>rw[h]at e2<;>cases e2
  have e3:loc[i']?=some (some v):=(bG sW).symm.trans e2;obtain⟨u,hh,V⟩:=hv n i' v e1 e3;refine⟨u,hh.bb' λn c e=>kl c (.inr ⟨n,e⟩),?_⟩
  induction v with
  |a v=>exact VR.v' E V
  |b d j'=>
   have hno:=aJ.mp hn _ (gZ e2);obtain⟨hd,V⟩:=V;have hp:(Pl.b (q.m.a.length-1-d) j')≠ .b l j:=λz=>by
    induction d using iV with
    |zero=>cases z;exact absurd hno (by show¬((!Nat.beq j j)=true);rw[pH];decide)
    |succ d=>
     have:q.m.a.length-1-(d+1)=l:=congrArg (λp=>Pl.casesOn (motive:=λJ=>Nat) p (λJ=>0) (λl J=>l) (λJ J=>0) (λJ=>0) λJ=>0) z
     rw[hl,Nat.add_sub_cancel]at this
     exact pF (Nat.sub_lt (bB (bI d) (Nat.lt_of_succ_lt_succ (Nat.lt_of_lt_of_eq hd hl))) (pC d)) this
   refine⟨E.m▸hd,?_⟩;rw[E.m];refine V.imp (hg _ hp) λ⟨b,e,o⟩=>⟨b,e,ho b _ o (λz=>?_) hp⟩
   obtain⟨t,ht⟩:=ha _ (z▸o);contradiction
  |e c k=>obtain⟨b,e,o⟩:=V;exact⟨b,e,E.O o (λJ J=>nofun) nofun⟩
theorem Ir(h1:nX nms sl x i=true)(h2:kT pe=true)(y:TR K nms sl e pe):SX K nms sl true (.q i e) (.Assign [.Name x np] pe pos):=⟨@λk Q E X he S=>wpAny_Assign_Name (y.r.a X he (λq v u E V hk=>Bf hk λj J J hk=>hk.elim) λq c a E1 na R hk=>Cj hk λpm r rr ni j st ej hn hj hk=>by
 have hl:q.m.a.length=rr.length+1:=by rw[st];rfl
 have hB:LB true X.p.m.a.length rr.length:=⟨rfl,by rw[<-E1.m,hl]⟩
 obtain⟨q3,es,Ag,E3,oa,ok⟩:=GR (B:=LB true X.p.m.a.length) st hj hB R;have nf:∀b,nQ X.a b->b≠a:=λb f z=>by have l:=X.p.r.d b _ (X.L.r b f);unfold eE at l;rw[z,na]at l;exact ft l
 have L3:fk sl X.a q3 (X.b.set i none):=(X.L.I E1 λJ J f=>f).f' E3 nf hn hl (λk e=>by rw[R.1]at e;cases e;exact⟨a,rfl⟩) (λk n g=>by
  rw[st]at g
  rw[Ag]
  induction k with
  |b l i=>exact CN (W:=q.W) n g
  |_=>exact g.elim) ok
 have E4:eY (nQ X.a) (LB true X.p.m.a.length) X.p q3:=E1.e'.f' E3 λb z=>.inr (z▸na)
 rw[<-es];refine p5 (D:=nQ X.a) (v:=.b 0 j) X.g L3 X.n (kg X h1).1 (kg X h1).2 (λJ=>.inl rfl) (λc J hc=>.inr ⟨x,hc⟩) ⟨by rw[Ag];exact pC _,.inr ⟨a,rfl,by rw[Ag];exact oa⟩⟩ λq4 E5 s5 L5=>?_
 have el:(X.b.set i none).set i (some (.b 0 j))=X.b:=by rw[List.set_set];obtain⟨h,e⟩:=aL.mp ej;rw[<-e];exact List.set_getElem_self h
 rw[el]at L5
 exact S q4 X.b .a _ (E4.I (E5.V (λJ z=>.inl z) λJ z=>z.elim)) L5 rfl (by rw[s5,Ag];exact hk)) (y.s h2 _ _ _)⟩
end

section
set_option backward.match.sparseCases false
section
variable{P:Expr->Prop}
noncomputable def nW(pe:Expr)(F0:∀w x y,Ck (P (.BoolOp w x y)):=λJ J J=>.d)(Ka:∀w x y z,Ck (P (.BinOp w x y z)):=λJ J J J=>.d)(v8:∀w x y,Ck (P (.UnaryOp w x y)):=λJ J J=>.d)(J9:∀w x y z,Ck (P (.IfExp w x y z)):=λJ J J J=>.d)(Sx:∀w x y,Ck (P (.Dict w x y)):=λJ J J=>.d)(yk:∀w x y z,Ck (P (.ListComp w x y z)):=λJ J J J=>.d)(v9:∀w x y z,Ck (P (.Compare w x y z)):=λJ J J J=>.d)(Jt:∀w x y z,Ck (P (.Call w x y z)):=λJ J J J=>.d)(tW:∀w x y,Ck (P (.Constant w x y)):=λJ J J=>.d)(wF:∀w x y,Ck (P (.Attribute w x y)):=λJ J J=>.d)(wC:∀w x y,Ck (P (.Subscript w x y)):=λJ J J=>.d)(Su:∀w x,Ck (P (.Name w x)):=λJ J=>.d)(Sv:∀w x,Ck (P (.List w x)):=λJ J=>.d)(J7:∀w x y,Ck (P (.Tuple w x y)):=λJ J J=>.d)(J8:∀w x y z,Ck (P (.Slice w x y z)):=λJ J J J=>.d):Ck (P pe):=Expr.casesOn (motive_1:=λpe=>Ck (P pe)) pe F0 (λJ J J=>.d) Ka v8 (λJ J J J=>.d) J9 Sx (λJ J J=>.d) yk (λJ J J J=>.d) (λJ J J J J=>.d) (λJ J J J=>.d) (λJ J=>.d) (λJ J=>.d) (λJ J=>.d) v9 Jt (λJ J J J=>.d) (λJ J=>.d) tW wF wC (λJ J=>.d) Su Sv J7 J8
def xF(pe:Expr)(k:∀n p,Ck (P (.Name n p))):Ck (P pe):=nW pe (Su:=k)
def CD(pe:Expr)(k:∀c n p,Ck (P (.Constant c n p))):Ck (P pe):=nW pe (tW:=k)
def vy(pe:Expr)(k:∀l o r p,Ck (P (.BinOp l o r p))):Ck (P pe):=nW pe (Ka:=k)
def Hk(pe:Expr)(k:∀o e p,Ck (P (.UnaryOp o e p))):Ck (P pe):=nW pe (v8:=k)
def Zp(pe:Expr)(k:∀o es p,Ck (P (.BoolOp o es p))):Ck (P pe):=nW pe (F0:=k)
def vIf(pe:Expr)(k:∀t a b p,Ck (P (.IfExp t a b p))):Ck (P pe):=nW pe (J9:=k)
def R6(pe:Expr)(k:∀ks vs p,Ck (P (.Dict ks vs p))):Ck (P pe):=nW pe (Sx:=k)
def Je(pe:Expr)(k:∀es p,Ck (P (.List es p))):Ck (P pe):=nW pe (Sv:=k)
def XM(pe:Expr)(k:∀es n p,Ck (P (.Tuple es n p))):Ck (P pe):=nW pe (J7:=k)
def Zo(pe:Expr)(k:∀e gs s p,Ck (P (.ListComp e gs s p))):Ck (P pe):=nW pe (yk:=k)
def vx(pe:Expr)(k:∀l os rs p,Ck (P (.Compare l os rs p))):Ck (P pe):=nW pe (v9:=k)
def Jf(pe:Expr)(k:∀f as kw p,Ck (P (.Call f as kw p))):Ck (P pe):=nW pe (Jt:=k)
def Du(pe:Expr)(k:∀o x p,Ck (P (.Attribute o x p))):Ck (P pe):=nW pe (wF:=k)
def TX(pe:Expr)(k:∀o i p,Ck (P (.Subscript o i p))):Ck (P pe):=nW pe (wC:=k)
def vl(pe:Expr)(k:∀a b c p,Ck (P (.Slice a b c p))):Ck (P pe):=nW pe (J8:=k)
noncomputable def on{α:Type}{R:Option α->Prop}(o:Option α)(k:Ck (R none)):Ck (R o):=Option.casesOn (motive:=λo=>Ck (R o)) o k λJ=>.d
noncomputable def os{α:Type}{R:Option α->Prop}(o:Option α)(k:∀a,Ck (R (some a))):Ck (R o):=Option.casesOn (motive:=λo=>Ck (R o)) o .d k
noncomputable def l0{α:Type}{R:List α->Prop}(l:List α)(k:Ck (R [])):Ck (R l):=List.casesOn (motive:=λl=>Ck (R l)) l k λJ J=>.d
noncomputable def Cy{α:Type}{R:List α->Prop}(l:List α)(k:∀a r,Ck (R (a::r))):Ck (R l):=List.casesOn (motive:=λl=>Ck (R l)) l .d k
def l1{α:Type}{R:List α->Prop}(l:List α)(k:∀a,Ck (R [a])):Ck (R l):=Cy l λa r=>l0 (R:=λr=>R (a::r)) r (k a)
def CF(pe:Expr)(k:∀x np as p,Ck (P (.Call (.Name x np) as [] p))):Ck (P pe):=Jf pe λf as kw p=>l0 (R:=λkw=>P (.Call f as kw p)) kw (xF (P:=λf=>P (.Call f as [] p)) f λx np=>k x np as p)
def CG(pe:Expr)(k:∀x np a p,Ck (P (.Call (.Name x np) [a] [] p))):Ck (P pe):=CF pe λx np as p=>l1 (R:=λas=>P (.Call (.Name x np) as [] p)) as λa=>k x np a p
def Zn(pe:Expr)(k:∀o x ap as p,Ck (P (.Call (.Attribute o x ap) as [] p))):Ck (P pe):=Jf pe λf as kw p=>l0 (R:=λkw=>P (.Call f as kw p)) kw (Du (P:=λf=>P (.Call f as [] p)) f λo x ap=>k o x ap as p)
def R7(pe:Expr)(k:∀l o r p,Ck (P (.Compare l [o] [r] p))):Ck (P pe):=vx pe λl os rs p=>l1 (R:=λos=>P (.Compare l os rs p)) os λo=>l1 (R:=λrs=>P (.Compare l [o] rs p)) rs λr=>k l o r p
def JF(pe:Expr)(k:∀p,Ck (P (.Dict [] [] p))):Ck (P pe):=R6 pe λks vs p=>l0 (R:=λks=>P (.Dict ks vs p)) ks (l0 (R:=λvs=>P (.Dict [] vs p)) vs (k p))
def UQ(pe:Expr)(k:∀x ks v vs p,Ck (P (.Dict (some x::ks) (v::vs) p))):Ck (P pe):=R6 pe λks vs p=>Cy (R:=λks=>P (.Dict ks vs p)) ks λx ks=>os (R:=λx=>P (.Dict (x::ks) vs p)) x λx=>Cy (R:=λvs=>P (.Dict (some x::ks) vs p)) vs λv vs=>k x ks v vs p
def JG(pe:Expr)(k:∀o x y r p,Ck (P (.BoolOp o (x::y::r) p))):Ck (P pe):=Zp pe λo es p=>Cy (R:=λes=>P (.BoolOp o es p)) es λx es=>Cy (R:=λes=>P (.BoolOp o (x::es) p)) es λy es=>k o x y es p
def UP(pe:Expr)(k:∀p1 p2,Ck (P (.List [.List [] p1] p2))):Ck (P pe):=Je pe λes p2=>l1 (R:=λes=>P (.List es p2)) es λa=>Je (P:=λa=>P (.List [a] p2)) a λes p1=>l0 (R:=λes=>P (.List [.List es p1] p2)) es (k p1 p2)
def UO(pe:Expr)(k:∀o e q p,Ck (P (.Subscript o (.Slice none (some e) none q) p))):Ck (P pe):=TX pe λo i p=>vl (P:=λi=>P (.Subscript o i p)) i λa b c q=>on (R:=λa=>P (.Subscript o (.Slice a b c q) p)) a (os (R:=λb=>P (.Subscript o (.Slice none b c q) p)) b λe=>on (R:=λc=>P (.Subscript o (.Slice none (some e) c q) p)) c (k o e q p))
def same{α:Type}[BEq α][LawfulBEq α]{R:α->Prop}(a b:α)(k:Ck (R a)):Ck (R b):=.I (a==b) λh=>eq_of_beq h▸k
def Zx{R:Str->Prop}(a b:Str)(k:Ck (R a)):Ck (R b):=.I (gP a b) λh=>dW.mp h▸k
variable (K:Kt)(H:Hy K)
def T(r:Bool)(nms:Nm)(sl:Sl)(e:ME)(pe:Expr):Prop:=Bool.rec (TE K nms sl e pe) (TR K nms sl e pe) r
variable{K}{nms:Nm}{sl:Sl}{r:Bool}{e:ME}{pe:Expr}
noncomputable def te(h:TE K nms sl e pe):Ck (T K r nms sl e pe):=Bool.rec (motive:=λr=>Ck (T K r nms sl e pe)) (.e h) .d r
noncomputable def tr(h:TR K nms sl e pe):Ck (T K r nms sl e pe):=Bool.rec (motive:=λr=>Ck (T K r nms sl e pe)) (.e h.I) (.e h) r
def gC{R:Comprehension->Prop}(g:Comprehension)(k:∀t i c,Ck (R ⟨t,i,c,0⟩)):Ck (R g):=Comprehension.casesOn (motive_3:=λg=>Ck (R g)) g λt i c a=>same (R:=λa=>R ⟨t,i,c,a⟩) 0 a (k t i c)
def yE{P:Expr->Prop}(pe:Expr)(k:∀e t i c s p,Ck (P (.ListComp e [⟨t,i,c,0⟩] s p))):Ck (P pe):=Zo pe λe gs s p=>l1 (R:=λgs=>P (.ListComp e gs s p)) gs λg=>gC (R:=λg=>P (.ListComp e [g] s p)) g λt i c=>k e t i c s p
def vw{P:Expr->Prop}(pe:Expr)(j:Int)(k:∀n p,Ck (P (.Constant (.int j) n p)))(k2:∀n p q,Ck (P (.UnaryOp .USub (.Constant (.int (-j)) n p) q))):Ck (P pe):=nW pe (v8:=λo b q=>same (R:=λo=>P (.UnaryOp o b q)) .USub o (CD (P:=λb=>P (.UnaryOp .USub b q)) b λc n p=>same (R:=λc=>P (.UnaryOp .USub (.Constant c n p) q)) (.int (-j)) c (k2 n p q))) (tW:=λc n p=>same (R:=λc=>P (.Constant c n p)) (.int j) c (k n p))
def ckC(v:PV)(c:Const)(n:Nat)(p:Pos):Ck (T K r nms sl (.n v) (.Constant c n p)):=match v,c with
 |.h,.none=>te RE
 |.g a,.bool b=>same (R:=λb=>T K r nms sl (.n (.g a)) (.Constant (.bool b) n p)) a b (te (RL a))
 |.d a,.int b=>same (R:=λb=>T K r nms sl (.n (.d a)) (.Constant (.int b) n p)) a b (te (WV a))
 |.k a,.str b=>Zx (R:=λb=>T K r nms sl (.n (.k a)) (.Constant (.str b) n p)) a b (te (WO a))
 |_,_=>.d
abbrev CE(K:Kt)(e:ME):=∀nms sl pe r,Ck (T K r nms sl e pe)
end
end

section
set_option backward.match.sparseCases false
section
variable{K:Kt}(H:Hy K){nms:Nm}{sl:Sl}{r:Bool}{e:ME}{pe:Expr}
abbrev CEs(K:Kt)(es:AZ):=∀nms sl g6,Ck (x8 K nms sl es g6)
abbrev CPs(K:Kt)(ps:Nq):=∀nms sl ks vs,Ck (Nl K nms sl ps ks vs)
theorem Im(H:Hy K){o:ME}{o':Expr}{j i:Int}{kk:Nat}{pos p p2 p3:Pos}(e: -j=i)(x:TE K nms sl o o'):TR K nms sl (.I o none (some i)) (.Subscript o' (.Slice none (some (.UnaryOp .USub (.Constant (.int j) kk p2) p3)) none p) pos):=e▸Il H x
def rq:∀e,CE K e:=ME.rec (motive_1:=λe=>CE K e) (motive_2:=λes=>CEs K es) (motive_3:=λps=>CPs K ps)
 (λv nms sl pe r=>CD pe λc n p=>ckC v c n p)
 (λi nms sl pe r=>xF pe λn p=>.I (Ed n sl==some i) λh1=>.I (iy n) λh2=>te (WT ((zj ..).symm.trans (eq_of_beq h1)) (Dl h2)))
 (λk nms sl pe r=>xF pe λn p=>.I (gP n (K.N.e k)) λh1=>.I (fQ nms n) λh2=>.I (iy n) λh3=>te (RJ H h1 h2 h3))
 (λop a b wX AS nms sl pe r=>vy pe λl o rr p=>same (R:=λo=>T K r nms sl _ (.BinOp l o rr p)) (xg op) o ((wX nms sl l false).J λx=>(AS nms sl rr false).J λy=>tr (WK x y)))
 (λe ih nms sl pe r=>Hk pe λo e' p=>same (R:=λo=>T K r nms sl _ (.UnaryOp o e' p)) .Not o ((ih nms sl e' false).J λx=>te (WQ x)))
 (λe ih nms sl pe r=>Hk pe λo e' p=>same (R:=λo=>T K r nms sl _ (.UnaryOp o e' p)) .USub o ((ih nms sl e' false).J λx=>te (WS x)))
 (λa b wX AS nms sl pe r=>JG pe λo x y es p=>same (R:=λo=>T K r nms sl _ (.BoolOp o (x::y::es) p)) .And o ((wX nms sl x false).J λh1=>(AS nms sl (Yq y es p) false).J λh2=>te (WX h1 h2)))
 (λa b wX AS nms sl pe r=>JG pe λo x y es p=>same (R:=λo=>T K r nms sl _ (.BoolOp o (x::y::es) p)) .Or o ((wX nms sl x false).J λh1=>(AS nms sl (Xt y es p) false).J λh2=>te (cw h1 h2)))
 (λt a b iht wX AS nms sl pe r=>vIf pe λt' a' b' p=>(iht nms sl t' false).J λz=>(wX nms sl a' false).J λx=>(AS nms sl b' false).J λy=>te (WU z x y))
 (λps ih nms sl pe r=>Nq.casesOn (motive_3:=λps=>CPs K ps->Ck (T K r nms sl (.w ps) pe)) ps (λJ=>JF pe λp=>tr MR) (λk v ps ih=>UQ pe λk' ks v' vs p=>.I (Nat.blt ks.length 15) λh=>(ih nms sl (some k'::ks) (v'::vs)).J λz=>tr (RA z h)) ih)
 (λes ih nms sl pe r=>Je pe λJa p=>(ih nms sl Ja).J λx=>tr (Ry x))
 (λes ih nms sl pe r=>XM pe λJa n p=>(ih nms sl Ja).J λx=>te (WM x))
 (λgF tgt fX AU wY nms sl pe r=>yE pe λe' t' i' cs sc p=>l0 (R:=λcs=>T K r nms sl _ (.ListComp e' [⟨t',i',cs,0⟩] sc p)) cs (.O (lA tgt t') λt ht=>.I (nR nms sc t sl) λh1=>(wY nms sl i' false).J λy=>(AU (fH nms sc.names) (fq t nms sc.names sl) e' false).J λz=>tr (Gw h1 ht y z)))
 (λgF tgt fX cQ AU wY ip nms sl pe r=>yE pe λe' t' i' cs sc p=>l1 (R:=λcs=>T K r nms sl _ (.ListComp e' [⟨t',i',cs,0⟩] sc p)) cs λc'=>.O (lA tgt t') λt ht=>.I (nR nms sc t sl) λh1=>(wY nms sl i' false).J λy=>(AU (fH nms sc.names) (fq t nms sc.names sl) e' false).J λz=>(ip (fH nms sc.names) (fq t nms sc.names sl) c' false).J λw=>tr (BS h1 ht y z w))
 (λop a b wX AS nms sl pe r=>R7 pe λl o rr p=>same (R:=λo=>T K r nms sl _ (.Compare l [o] [rr] p)) (TM op) o (.I (!behindInMarks (TM op) rr) λh=>(wX nms sl l false).J λx=>(AS nms sl rr false).J λy=>te (WW H x y ((mq _).mp h))))
 (λe wQ ih nms sl pe r=>R7 pe λl o rr p=>same (R:=λo=>T K r nms sl _ (.Compare l [o] [rr] p)) (if wQ then .IsNot else .Is) o (CD (P:=λrr=>T K r nms sl _ (.Compare l [if wQ then .IsNot else .Is] [rr] p)) rr λc n p2=>same (R:=λc=>T K r nms sl _ (.Compare l [if wQ then .IsNot else .Is] [.Constant c n p2] p)) .none c ((ih nms sl l false).J λx=>te (Iq x))))
 (λf args ih nms sl pe r=>CF pe λx np as p=>.I (gP x (K.N.c f)) λh1=>.I (K.N.b f) λh2=>.I (fQ nms x) λh3=>.I (iy x) λh4=>(ih nms sl as).J λy=>te (RK H h1 h2 h3 h4 y))
 (λc args ih nms sl pe r=>CF pe λx np as p=>.I (gP x (K.N.d c)) λh1=>.I (gX c).isSome λh2=>.I (fQ nms x) λh3=>.I (iy x) λh4=>(ih nms sl as).J λy=>te (WR H h1 h2 h3 h4 y))
 (λb e ih nms sl pe r=>CG pe λx np a p=>.I (gP x (yW b)) λh1=>.I (fQ nms x) λh3=>.I (iy x) λh4=>(ih nms sl a false).J λy=>tr (cq H h1 h3 h4 y))
 (λo name args AU wY nms sl pe r=>Zn pe λo' x ap as p=>.I (gP x (K.N.a name)) λh1=>.I (nS o') λh2=>.I (ap.endLine==p.line) λh3=>.I (Nat.blt as.length 29) λh4=>(AU nms sl o' false).J λy=>(wY nms sl as).J λz=>te (RG H h1 h2 h3 h4 y z))
 (λo name ih nms sl pe r=>Du pe λo' x p=>.I (gP x (K.N.a name)) λh1=>.I (nS o') λh2=>(ih nms sl o' false).J λy=>te (RM H h1 h2 y))
 (λo i iho ihi nms sl pe r=>TX pe λo' i' p=>(iho nms sl o' false).J λx=>(ihi nms sl i' false).J λy=>te (WN x y))
 (λo lo hi ih nms sl pe r=>on (R:=λlo=>T K r nms sl (.I o lo hi) pe) lo (os (R:=λhi=>T K r nms sl (.I o none hi) pe) hi λj=>UO pe λo' b q p=>(ih nms sl o' false).J λx=>vw (P:=λb=>T K r nms sl _ (.Subscript o' (.Slice none (some b) none q) p)) b j (λn p2=>tr (Ik H x)) λn p2 p3=>tr (Im H (Int.neg_neg j) x)))
 (λdead e ih nms sl pe r=>Bool.casesOn (motive:=λdead=>Ck (T K r nms sl (.m dead e) pe)) dead ((ih nms sl pe true).J λx=>te (KI x)) (xF pe λx p=>(ih nms sl (.Name x p) false).J λy=>te (RH y)))
 (λe ih nms sl pe r=>(ih nms sl pe true).J λx=>te (RD x))
 (λnms sl pe r=>UP pe λp1 p2=>te MX)
 (λnms sl pe r=>JF pe λp=>te MW)
 (λnms sl pe r=>nW pe (v9:=λJ J J J=>te Io) (Jt:=λJ J J J=>te Ip))
 (λnms sl g6=>l0 g6 (.e RC))
 (λe es AU wY nms sl g6=>Cy g6 λpe g6=>(AU nms sl pe false).J λx=>(wY nms sl g6).J λy=>.e (MU x y))
 (λnms sl ks vs=>l0 (R:=λks=>Nl K nms sl .a ks vs) ks (l0 vs (.e RB)))
 (λk v ps AU wY ip nms sl ks vs=>Cy (R:=λks=>Nl K nms sl (.b k v ps) ks vs) ks λk' ks=>os (R:=λk'=>Nl K nms sl (.b k v ps) (k'::ks) vs) k' λk'=>Cy vs λv' vs=>(AU nms sl k' false).J λx=>(wY nms sl v' false).J λy=>(ip nms sl ks vs).J λz=>.e (MT x y z))
end
end

section
set_option backward.match.sparseCases false
section
section
variable{P:Stmt->Prop}
noncomputable def w9(ps:Stmt)(FZ:∀w x,Ck (P (.Return w x)):=λJ J=>.d)(F2:∀w x y,Ck (P (.Assign w x y)):=λJ J J=>.d)(wD:∀w x y z,Ck (P (.AugAssign w x y z)):=λJ J J J=>.d)(kFor:∀w x y z u,Ck (P (.For w x y z u)):=λJ J J J J=>.d)(J6:∀w x y z,Ck (P (.While w x y z)):=λJ J J J=>.d)(kIf:∀w x y z,Ck (P (.If w x y z)):=λJ J J J=>.d)(Yc:∀w x y z u,Ck (P (.Try w x y z u)):=λJ J J J J=>.d)(Sw:∀w x,Ck (P (.Expr w x)):=λJ J=>.d)(yl:∀w,Ck (P (.Continue w)):=λJ=>.d):Ck (P ps):=Stmt.casesOn (motive_2:=λps=>Ck (P ps)) ps (λJ J J J J J J J J J=>.d) (λJ J J J J J J J J J=>.d) (λJ J J J J J J J J J J=>.d) FZ (λJ J=>.d) F2 (λJ J J J J J J=>.d) wD (λJ J J J J=>.d) kFor (λJ J J J J=>.d) J6 kIf (λJ J J=>.d) (λJ J J=>.d) (λJ J J=>.d) (λJ J J=>.d) Yc (λJ J J J J=>.d) (λJ J J=>.d) (λJ J=>.d) (λJ J J J=>.d) (λJ J=>.d) (λJ J=>.d) Sw (λJ=>.d) (λJ=>.d) yl
def XJ(ps:Stmt)(k:∀v p,Ck (P (.Return v p))):Ck (P ps):=w9 ps (FZ:=k)
def vi(ps:Stmt)(k:∀ts v p,Ck (P (.Assign ts v p))):Ck (P ps):=w9 ps (F2:=k)
def XK(ps:Stmt)(k:∀t o v p,Ck (P (.AugAssign t o v p))):Ck (P ps):=w9 ps (wD:=k)
def u8(ps:Stmt)(k:∀t i b e p,Ck (P (.For t i b e p))):Ck (P ps):=w9 ps (kFor:=k)
def UL(ps:Stmt)(k:∀t b e p,Ck (P (.While t b e p))):Ck (P ps):=w9 ps (J6:=k)
def wIf(ps:Stmt)(k:∀t a b p,Ck (P (.If t a b p))):Ck (P ps):=w9 ps (kIf:=k)
def ut(ps:Stmt)(k:∀b h e f p,Ck (P (.Try b h e f p))):Ck (P ps):=w9 ps (Yc:=k)
def Zj(ps:Stmt)(k:∀e p,Ck (P (.Expr e p))):Ck (P ps):=w9 ps (Sw:=k)
def Zk(ps:Stmt)(k:∀p,Ck (P (.Continue p))):Ck (P ps):=w9 ps (yl:=k)
def Ds(ps:Stmt)(k:∀t v p,Ck (P (.Assign [t] v p))):Ck (P ps):=vi ps λts v p=>l1 (R:=λts=>P (.Assign ts v p)) ts λt=>k t v p
def RZ(ps:Stmt)(k:∀n np v p,Ck (P (.Assign [.Name n np] v p))):Ck (P ps):=Ds ps λt v p=>xF (P:=λt=>P (.Assign [t] v p)) t λn np=>k n np v p
end
variable{K:Kt}(H:Hy K){nms:Nm}{sl:Sl}{r:Bool}{e:ME}{pe:Expr}
def ckI(mi:PK)(nms:Nm)(sl:Sl)(pe:Expr):Ck (TQ K nms sl mi pe):=PK.casesOn (motive:=λmi=>Ck (TQ K nms sl mi pe)) mi (λe=>(rq H e nms sl pe false).J λy=>.e (M1 y))
 (λe=>CG pe λx np a p=>.I (gP x "reversed") λh1=>.I (fQ nms x) λh2=>.I (iy x) λh3=>(rq H e nms sl a false).J λy=>.e (RS H h1 h2 h3 y))
 (λe=>CG pe λx np a p=>.I (gP x "range") λh1=>.I (fQ nms x) λh2=>.I (iy x) λh3=>(rq H e nms sl a false).J λy=>.e (Iv H h1 h2 h3 y))
structure Cq(K:Kt)(nms:Nm)(sl:Sl)(e:ME)(pe:Expr):Prop where
 b:∀{r x j np pos},nX nms sl x j=true->SX K nms sl r (.c j e) (.Assign [.Name x np] pe pos)
 a:∀{r x j np pos},nX nms sl x j=true->SX K nms sl r (.c j (.m false e)) (.Assign [.Name x np] pe pos)
theorem Cq.I{jF g7 iter':Expr}{mE:WB}{scope:Scope}{lp:Pos}{tgt:Nat ⊕ S5}{cQ:EV}{gF fX:ME}{t:Sl}(z:TR K nms sl e (.ListComp jF [⟨g7,iter',mE,0⟩] scope lp))(Y:CO K nms sl tgt cQ gF jF g7 mE scope t)(y:TE K nms sl fX iter')
  (he:aE K.a e=λloc s k=>aE K.a fX loc s λsV s=>rI tgt sV cQ (aE K.a gF) (gQ tgt loc) s k):Cq K nms sl e (.ListComp jF [⟨g7,iter',mE,0⟩] scope lp):=
 ⟨λh1=>wN (λk=>k) rU.aO' h1 z.I Y y λloc s k=>by rw[he],λh1=>wN (λk v s=>zY false v s k) rU.aP' h1 (KI z) Y y λloc s k=>by show aE K.a e loc s _=_;rw[he]⟩
def ckQ(e:ME)(nms:Nm)(sl:Sl)(pe:Expr):Ck (Cq K nms sl e pe):=match e with
 |.K gF tgt fX=>yE pe λe' t' i' cs sc p=>l0 (R:=λcs=>Cq K nms sl _ (.ListComp e' [⟨t',i',cs,0⟩] sc p)) cs (.O (lA tgt t') λt ht=>.I (nR nms sc t sl) λh1=>(rq H fX nms sl i' false).J λy=>(rq H gF (fH nms sc.names) (fq t nms sc.names sl) e' false).J λz=>.e (.I (Gw h1 ht y z) ⟨mG h1,ht,JO,z⟩ y rfl))
 |.J gF tgt fX cQ=>yE pe λe' t' i' cs sc p=>l1 (R:=λcs=>Cq K nms sl _ (.ListComp e' [⟨t',i',cs,0⟩] sc p)) cs λc'=>.O (lA tgt t') λt ht=>.I (nR nms sc t sl) λh1=>(rq H fX nms sl i' false).J λy=>(rq H gF (fH nms sc.names) (fq t nms sc.names sl) e' false).J λz=>(rq H cQ (fH nms sc.names) (fq t nms sc.names sl) c' false).J λw=>.e (.I (BS h1 ht y z w) ⟨mG h1,ht,TE.I w,z⟩ y rfl)
 |_=>.d
noncomputable def XB{p:Prop}(a b:Ck p):Ck p:=Ck.casesOn (motive:=λJ=>Ck p) a b .e
def ckA(e:ME)(j:Nat)(nms:Nm)(sl:Sl)(r:Bool)(ps:Stmt):Ck (SX K nms sl r (.c j e) ps):=RZ ps λn np v p=>.I (nX nms sl n j) λh1=>XB (.I (kT v) λh2=>(rq H e nms sl v false).J λy=>.e (Iu h1 h2 y)) (XB ((ckQ H e nms sl v).J λy=>.e (y.b h1)) (match e with
 |.m false e=>(ckQ H e nms sl v).J λy=>.e (y.a h1)
 |_=>.d))
end
end

section
set_option backward.match.sparseCases false
section
variable{K:Kt}(H:Hy K)
abbrev CS(K:Kt)(st:MS):=∀nms sl r ps,Ck (SX K nms sl r st ps)
abbrev CSs(K:Kt)(uF:nP):=∀nms sl r GB,Ck (Fy K nms sl r uF GB)
def Yn:∀uF,CSs K uF:=nP.rec (motive_1:=λst=>CS K st) (motive_2:=λuF=>CSs K uF)
 (λi e nms sl r ps=>ckA H e i nms sl r ps)
 (λi e nms sl r ps=>RZ ps λn np v p=>Bool.casesOn (motive:=λr=>Ck (SX K nms sl r (.q i e) (.Assign [.Name n np] v p))) r .d (.I (nX nms sl n i) λh1=>.I (kT v) λh2=>(rq H e nms sl v true).J λy=>.e (Ir h1 h2 y)))
 (λis e nms sl r ps=>Ds ps λt v p=>XM (P:=λt=>SX K nms sl r _ (.Assign [t] v p)) t λes n tp=>Jf (P:=λv=>SX K nms sl r _ (.Assign [.Tuple es n tp] v p)) v λf as kw cp=>.O (lA (.inr is) (.Tuple es n tp)) λt ht=>.I (t.all λp=>nX nms sl p.1 p.2) λh2=>(rq H e nms sl (.Call f as kw cp) false).J λy=>.e (Fb ht h2 (λJ=>rfl) (λJ=>rfl) y))
 (λo name e nms sl r ps=>Ds ps λt v p=>Du (P:=λt=>SX K nms sl r _ (.Assign [t] v p)) t λo' x tp=>.I (gP x (K.N.a name)) λh1=>(rq H o nms sl o' false).J λy=>(rq H e nms sl v false).J λz=>.e (E8 H h1 y z))
 (λo i e nms sl r ps=>Ds ps λt v p=>TX (P:=λt=>SX K nms sl r _ (.Assign [t] v p)) t λo' i' tp=>(rq H o nms sl o' false).J λy=>(rq H i nms sl i' false).J λw=>(rq H e nms sl v false).J λz=>.e (E7 y w z))
 (λi op e nms sl r ps=>XK ps λt o v p=>xF (P:=λt=>SX K nms sl r _ (.AugAssign t o v p)) t λx np=>.I (o==xg op) λh0=>.I (AN op) λh1=>.I (nX nms sl x i) λh2=>(rq H e nms sl v false).J λy=>.e (W5 h0 h1 h2 y))
 (λo name op e nms sl r ps=>XK ps λt o2 v p=>Du (P:=λt=>SX K nms sl r _ (.AugAssign t o2 v p)) t λo' x tp=>.I (o2==xg op) λh0=>.I (AN op) λh1=>.I (gP x (K.N.a name)) λh2=>(rq H o nms sl o' false).J λz=>(rq H e nms sl v false).J λy=>.e (E9 H h0 h1 h2 z y))
 (λt a b wX AS nms sl r ps=>wIf ps λt' a' b' p=>(rq H t nms sl t' false).J λj=>(wX nms sl r a').J λx=>(AS nms sl r b').J λy=>.e (W3 j x y))
 (λt a wX nms sl r ps=>UL ps λt' a' e p=>l0 (R:=λe=>SX K nms sl r _ (.While t' a' e p)) e ((rq H t nms sl t' false).J λj=>(wX nms sl r a').J λx=>.e (MZ j x)))
 (λtgt it a wX nms sl r ps=>u8 ps λt' i' a' e p=>l0 (R:=λe=>SX K nms sl r _ (.For t' i' a' e p)) e ((ckI H it nms sl i').J λy=>.O (lA tgt t') λt ht=>.I (t.all λp=>nX nms sl p.1 p.2) λh2=>(wX nms sl false a').J λx=>.e (W4 y ht h2 x)))
 (λe nms sl r ps=>XJ ps λv p=>os (R:=λv=>SX K nms sl r _ (.Return v p)) v λv=>(rq H e nms sl v false).J λx=>.e (WZ x))
 (λnms sl r ps=>XJ ps λv p=>on (R:=λv=>SX K nms sl r _ (.Return v p)) v (.e RO))
 (λe nms sl r ps=>Zj ps λv p=>.I (kT v) λh1=>(rq H e nms sl v false).J λx=>.e (RP h1 x))
 (λa b wX AS nms sl r ps=>ut ps λa' h e f p=>l0 (R:=λe=>SX K nms sl r _ (.Try a' h e f p)) e (Cy (R:=λf=>SX K nms sl r _ (.Try a' h [] f p)) f λf0 fs=>(wX nms sl r a').J λx=>(AS nms sl false (f0::fs)).J λy=>.e (WY x y)))
 (λnms sl r ps=>Zk ps λp=>.e RQ)
 (λnms sl r ps=>.e M0)
 (λnms sl r GB=>l0 GB (.e RN))
 (λst uF AU wY nms sl r GB=>Cy GB λps GB=>(AU nms sl r ps).J λx=>(wY nms sl r GB).J λy=>.e (MY x y))
end
end

section
variable{C:dX}{D:Addr->Prop}{B:Nat->Prop}{p q:Pt C}{W:Wd}{P:Pl}{b:Addr}{k:Pl×Bool}
noncomputable def Pt.re(p:Pt C)(cU:St)(hs:∀b P x,p.W.d b=some (P,x)->∀c,aW p.W p.m P=some c->aW p.W cU P=some c):Pt C:=⟨p.W,p.s,cU,p.r.O (g9.O) (λJ J J x=>x) p.r.f p.r.d p.r.g λa P x e=>.inl ⟨e,λJ J z=>⟨z,rfl⟩,λc e2=>⟨c,hs a P x e c e2,.inl rfl⟩⟩⟩
theorem zo{pm:V6}{ni:S1}{rr:V5}{d:ah}{r:V6}(e:aW W ⟨pm,rr,ni⟩ P=some d):aW W ⟨pm,r::rr,ni⟩ P=some d:=by
 induction P with
 |b l i=>
  change rr.reverse[l]?.bind (·[i]?)=some d at e
  show(r::rr).reverse[l]?.bind (·[i]?)=some d;rw[fM]
  induction z:rr.reverse[l]? with
  |none=>rw[z]at e;exact nn e
  |some w=>
   rw[z]at e
   rw[aZ (aL.mp z).1,z];exact e
 |_=>exact e
theorem JQ{pm:V6}{ni:S1}{rr:V5}{d:ah}{r:V6}(n:∀j,P≠ .b rr.length j)(e:aW W ⟨pm,r::rr,ni⟩ P=some d):aW W ⟨pm,rr,ni⟩ P=some d:=by
 induction P with
 |b l i=>
  change(r::rr).reverse[l]?.bind (·[i]?)=some d at e
  show rr.reverse[l]?.bind (·[i]?)=some d;rw[fM]at e
  rcases ry l rr.reverse.length with z|z|z
  .rw[aZ z]at e;exact e
  .exact absurd (by rw[z,cM]) (n i)
  .rw[aV (by rw[aa];exact z)]at e;exact nn e
 |_=>exact e
open Classical in
def Wd.c'(W:Wd)(S:Addr->Prop):Wd:=⟨λb=>if S b then some (.d b,false)else W.d b,W.f⟩
variable{S:Addr->Prop}
theorem sL(n:¬S b):(W.c' S).d b=W.d b:=if_neg n
theorem JH(s:S b):(W.c' S).d b=some (.d b,false):=if_pos s
theorem o8(e:(W.c' S).d b=some k):(S b/\k=(.d b,false))\/W.d b=some k:=by
 by_cases h:S b
 .rw[JH h]at e;obtain rfl:=si e;exact .inl ⟨h,rfl⟩
 .rw[sL h]at e;exact .inr e
def Pt.y'(p:Pt C)(h':Heap)(tk:Nat)(g:dY p.I h')(S:Addr->Prop)(ns:∀a,S a->p.I.get? a=none)(ls:∀a,S a->eE h' a):Pt C:=
 ⟨p.W.c' S,{p.s with heap:=h',toks:=tk},p.m,by
  have nn:∀b k,p.W.d b=some k->(p.W.c' S).d b=some k:=λb k e=>(sL λz=>iO (p.V (ns b z)) e rfl).trans e
  refine p.r.O ⟨λb o x=>⟨(sL λz=>sR (ns b z) x rfl).trans x.1,g b o x.2⟩,λb i x=>nn b _ x,λb i x=>⟨nn b _ x,rfl⟩⟩ (λb c k x=>nn b _ x) (λa b k e1 e2=>?_) (λb k e=>?_) (λb t x e=>?_) λb P y e=>?_
  .rcases o8 e1 with⟨s1,rfl⟩|e1<;>rcases o8 e2 with⟨s2,e3⟩|e2
   .cases e3;rfl
   .exact(p.r.g b _ _ e2).symm
   .subst e3;exact p.r.g a _ _ e1
   .exact p.r.f a b k e1 e2
  .rcases o8 e with⟨s,J⟩|e
   .exact ls b s
   .exact g.lv (p.r.d b k e)
  .rcases o8 e with⟨s,q⟩|e
   .cases q;rfl
   .exact p.r.g b t x e
  .rcases o8 e with⟨s,q⟩|e
   .cases q;exact .inr ⟨.d,rfl,λJ=>trivial⟩
   .exact .inl ⟨e,λc x q=>⟨nn c _ q,g.ak' (p.r.d c _ q)⟩,nq⟩⟩
theorem Pt.C'(p:Pt C)(h':Heap)(tk:Nat)(g:dY p.I h')(S:Addr->Prop)(ns ls):eY D B p (p.y' h' tk g S ns ls):=
 have nn:∀b k,p.W.d b=some k->(p.W.c' S).d b=some k:=λb k e=>(sL λz=>iO (p.V (ns b z)) e rfl).trans e
 ⟨rfl,λb o x=>⟨(sL λz=>sR (ns b z) x rfl).trans x.1,g b o x.2⟩,λb k e=>.inl (nn b k e),λb t e J=>g.ak' (p.r.d b _ e),λJ J J J=>rfl,λJ x=>.inl x,rfl,λJ J=>g.lv⟩
end

theorem lQ{p:Str×Addr}:∀(names:aad)(k:Nat)(acc:aar),p∈acc->p∈cellsFrom k names acc
 |[],_,_,h=>h
 |(y,q)::r,k,acc,h=>by
  unfold cellsFrom;split
  .exact lQ r _ _ (af _ h)
  .exact lQ r _ _ h
theorem kF{x:Str}:∀(names:aad)(k:Nat)(acc:aar),(x,NameKind.cell)∈names->((cellsFrom k names acc).lookup x).isSome=true
 |(y,q)::r,k,acc,h=>by
  unfold cellsFrom;rcases aF.mp h with e|h
  .cases e
   rw[if_pos (by rfl)]
   exact bz.mpr (lR (lQ r (k+1) ((x,k)::acc) aj))
  .split
   .exact kF r _ _ h
   .exact kF r _ _ h
theorem wK{kindOf:Str->aaq}{x:Str}:∀(bs:aak)(m:Str->V9),(∀p∈bs,p.1≠x)->bindL kindOf bs m x=m x
 |[],_,_=>rfl
 |(y,v)::r,m,h=>by
  unfold bindL;rw[wK r _ λp hp=>h p (af _ hp)]
  split
  .exact if_neg (λe=>h (y,v) aj e.symm)
  .rfl
theorem yw{kindOf:Str->aaq}{x:Str}{v:Value}(hk:kindOf x=some .local):∀(bs:aak)(m:Str->V9),(bs.map (·.1)).Nodup->(x,v)∈bs->bindL kindOf bs m x=some v
 |(y,u)::r,m,hn,h=>by
  rw[dD,cD]at hn
  unfold bindL;rcases aF.mp h with e|h
  .cases e
   rw[wK r _ λp hp e=>hn.1 (bF.mpr ⟨p,hp,e⟩),if_pos hk]
   exact if_pos rfl
  .exact yw hk r _ hn.2 h
theorem wL{kindOf:Str->aaq}{x:Str}:∀(bs:aak)(m:Str->V9),(∀p∈bs,p.1≠x)->bindC kindOf bs m x=m x
 |[],_,_=>rfl
 |(y,v)::r,m,h=>by
  unfold bindC;rw[wL r _ λp hp=>h p (af _ hp)]
  split
  .rfl
  .exact if_neg (λe=>h (y,v) aj e.symm)
theorem yx{kindOf:Str->aaq}{x:Str}{v:Value}(hk:kindOf x=some .cell):∀(bs:aak)(m:Str->V9),(bs.map (·.1)).Nodup->(x,v)∈bs->bindC kindOf bs m x=some v
 |(y,u)::r,m,hn,h=>by
  rw[dD,cD]at hn
  unfold bindC;rcases aF.mp h with e|h
  .cases e
   rw[wL r _ λp hp e=>hn.1 (bF.mpr ⟨p,hp,e⟩),if_neg (by rw[hk];decide)]
   exact if_pos rfl
  .exact yx hk r _ hn.2 h
structure AO(C:dX)(N:Jd)(f:Nat)(mf:bH)(o:Obj)(fd:FuncData)(body:aaj)(sl:Sl)(names:aab)(eZ:S9):Prop where
 g:C.b.get? (C.e f)=some o
 q:o.data=.func fd
 w:fd.body=.stmts body
 u:fd.closure=[]
 m:fd.globals=mainGlobals
 x:fd.builtins=builtinsNs
 c:fd.scope.kind=.function
 t:fd.scope.isCoroutine=false
 p:fd.scope.isGenerator=false
 r:C.b.CodeRec fd.code fd.qualname
 k:C.b.NoLimit
 l:(sl.map (·.2)).Nodup
 h:names.Nodup
 j:names.length=mf.a
 e:∀n i,sl.lookup n=some i->i<mf.a->names[i]?=some n
 a:∀n∈names,fd.scope.names.lookup n=some .local\/fd.scope.names.lookup n=some .cell
 v:∀{cl:CL}{n:Nat},Hy ⟨C,N,cl,n⟩->Fy ⟨C,N,cl,n⟩ fd.scope.names sl true mf.d body
 d:bR C W0 C.b mf.b eZ
 y:∀(s:Shared)(us:S9),(∀b o,C.b.get? b=some o->s.heap.get? b=some o)->us.length<=mf.a->mf.a<=us.length+eZ.length->BindsTo s fd ⟨us,[]⟩ (names.zip (us++eZ.drop (us.length+eZ.length-mf.a)))
section
variable{C:dX}{p q:Pt C}{vs ws:WC}{us xs:S9}{v:MV}{u:Value}
theorem ly.bd':∀{vs:WC}{us:S9},ly p vs us->us.length=vs.length
 |[],us,h=>by obtain rfl:=(show us=[]from h);rfl
 |v::vs,us,h=>by obtain⟨u,r,rfl,J,h2⟩:=h;exact congrArg (· +1) (ly.bd' h2)
theorem ly.bf':∀{vs:WC}{us:S9}{i:Nat},ly p vs us->vs[i]?=some v->∃u,us[i]?=some u/\VM p v u
 |w::vs,us,0,h,e=>by obtain⟨u,r,rfl,h1,h2⟩:=h;obtain rfl:=si e;exact⟨u,rfl,h1⟩
 |w::vs,us,i+1,h,e=>by obtain⟨u,r,rfl,h1,h2⟩:=h;exact ly.bf' (i:=i) h2 e
theorem ly.bg':∀{vs:WC}{us:S9},ly p vs us->ly p ws xs->ly p (vs++ws) (us++xs)
 |[],us,h,k=>by obtain rfl:=(show us=[]from h);exact k
 |v::vs,us,h,k=>by obtain⟨u,r,rfl,h1,h2⟩:=h;exact ly.bc' h1 (ly.bg' h2 k)
theorem ly.be':∀{vs:S3}{us:S9},bR C p.W p.I vs us->ly p (vs.map .a) us
 |[],us,h=>h
 |v::vs,us,h=>by obtain⟨u,r,rfl,h1,h2⟩:=h;exact⟨u,r,rfl,h1,ly.be' h2⟩
theorem VM.up{C:dX}{p q:Pt C}{v:MV}{u:Value}{r:V6}(x:VM p v u)(K:g9 p.W p.I q.W q.I)(hi:∀b c k,p.W.d b=some (.e c k,false)->q.W.d b=some (.e c k,false))(ho:∀b l i,p.W.d b=some (.b l i,false)->q.W.d b=some (.b l i,false))(st:q.m=p.m.I (r:: ·)):VM q v.J u:=by
 have hl:q.m.a.length=p.m.a.length+1:=by rw[st];rfl
 induction v with
 |a v=>exact VR.u' K v u x
 |b d i=>
  obtain⟨hd,x⟩:=x;have el:q.m.a.length-1-(d+1)=p.m.a.length-1-d:=by rw[hl,Nat.add_sub_cancel,fE d 1,<-Nat.sub_sub]
  refine⟨hl▸Nat.succ_lt_succ hd,?_⟩;rw[el];refine x.imp (λg=>?_) λ⟨a,e,o⟩=>⟨a,e,ho a _ _ o⟩
  rw[st];exact zo (W:=p.W) (P:=.b (p.m.a.length-1-d) i) (pm:=p.m.b) (ni:=p.m.c) (rr:=p.m.a) (r:=r) g
 |e c k=>exact x.imp λa ⟨e,o⟩=>⟨e,hi a _ _ o⟩
end

section
variable{C:dX}{N:Jd}{f:Nat}{mf:bH}{o:Obj}{fd:FuncData}{body:aaj}{sl:Sl}{names:aab}{eZ:S9}{p p2 q:Pt C}{env:Env}
theorem QA(p:Pt C):∀b P x,p.W.d b=some (P,x)->∀c,aW p.W p.m P=some c->aW p.W (p.m.I ([]:: ·)) P=some c:=λb P x e c h=>zo (pm:=p.m.b) (ni:=p.m.c) (rr:=p.m.a) h
def Pt.j'(p:Pt C):Pt C:=p.re (p.m.I ([]:: ·)) (QA p)
theorem GL{us:S9}(h:names.length=us.length):(names.zip us).map (·.1)=names:=by rw[List.map_fst_zip];exact bZ h
theorem EO{vs:WC}{us:S9}{s':Shared}{k:Nat}(F:AO C N f mf o fd body sl names eZ)(V:ly p vs us)(hl:vs.length=mf.a)
  (x:InCallC p.s (callEnvC fd p.I.objs.size (C.e f)).locals (bindL (callEnvC fd p.I.objs.size (C.e f)).kindOf (names.zip us) λJ=>none) (callEnvC fd p.I.objs.size (C.e f)).cells (bindC (callEnvC fd p.I.objs.size (C.e f)).kindOf (names.zip us) λJ=>none) s'):
  ∃p2:Pt C,p2.s=s'/\p2.m=p.m/\Ex p p2/\(∀b k,p.W.d b=some k->p2.W.d b=some k)/\mC (callEnvC fd p.I.objs.size (C.e f))/\fk sl (callEnvC fd p.I.objs.size (C.e f)) p2.j' ((vs.map λv=>some v.J)++List.replicate k none)/\∀a,nQ (callEnvC fd p.I.objs.size (C.e f)) a->p.I.get? a=none:=by
 obtain⟨h',tk,rfl,kp⟩:=x.done;have v3:names.length=us.length:=by rw[F.j,<-hl,V.bd']
 have fresh:∀a,p.I.objs.size<=a->p.I.get? a=none:=λa ha=>by
  induction e:p.I.get? a with
  |none=>rfl
  |some o'=>exact absurd (yZ e) (nI.mpr ha)
 have ek:mC (callEnvC fd p.I.objs.size (C.e f)):=⟨F.c,F.m,F.x,λn hn=>kF _ _ _ (cV hn)⟩
 have dead:∀a,nQ (callEnvC fd p.I.objs.size (C.e f)) a->p.I.get? a=none:=λa q=>by
  rcases q with q|⟨n,hn⟩
  .exact fresh a (bZ (Eq.symm q))
  .exact fresh a (Nat.le_of_lt (x.above n a (cV hn)))
 have lv:∀a,nQ (callEnvC fd p.I.objs.size (C.e f)) a->eE h' a:=λa q=>by
  rcases q with q|⟨n,hn⟩
  .obtain⟨o,J,J,ho,J⟩:=x.toInCall.ns;exact q▸bS ho
  .obtain⟨o,ho,J⟩:=x.cell n a hn;exact bS ho
 let p2:=p.y' h' tk kp (nQ (callEnvC fd p.I.objs.size (C.e f))) dead lv
 have E:Ex p p2:=p.C' ..;have up:∀b k,p.W.d b=some k->p2.W.d b=some k:=λb k e=>(sL λz=>iO (p.V (dead b z)) e rfl).trans e
 refine⟨p2,rfl,rfl,E,up,ek,⟨λa q=>JH q,λn c e=>⟨⟨_,x.cell n c e⟩,?_⟩,x.apart,_,x.toInCall.ns,λn i v e1 e2=>?_⟩,dead⟩
 .exactλq=>Nat.lt_irrefl _ (q▸x.above n c (cV e))
 .have hi:i<vs.length:=by
   by_cases q:i<vs.length
   .exact q
   .rw[bP (by rw[ao];exact cH q),List.getElem?_replicate]at e2
    split at e2
    .cases e2
    .exact nn e2
  rw[aZ (by rw[ao];exact hi),dR]at e2
  obtain⟨w,e3,e4⟩:∃w,vs[i]?=some w/\w.J=v:=by
   induction q:vs[i]? with
   |none=>rw[q]at e2;exact nn e2
   |some w=>rw[q]at e2;exact⟨w,rfl,aq (aq e2)⟩
  obtain⟨u,hu,hv⟩:=V.bf' e3;have hn:=F.e n i e1 (hl▸hi);have hm:(n,u)∈names.zip us:=by refine vP.mpr ⟨i,?_⟩;rw[List.getElem?_zip_eq_some];exact⟨hn,hu⟩
  have nd:((names.zip us).map (·.1)).Nodup:=by rw[GL v3];exact F.h
  refine⟨u,?_,e4▸VM.up (q:=p2.j') hv E.i' (λb c k e=>E.O e (λJ J=>nofun) λJ=>id) (λb l i e=>?_) rfl⟩
  .rcases F.a n (gZ hn)with k|k
   .exact .inl ⟨k,yw k _ _ nd hm⟩
   .obtain⟨c,hc⟩:=bz.mp (ek.b n k);refine .inr ⟨k,c,hc,?_⟩;have:=x.cell n c hc;rwa [yx k _ _ nd hm]at this
  .exact up b _ e
end

structure SM(s:Cb)(m:bH):Prop where
 a:s.a=m.a
 c:s.b=m.b
 b:s.c=m.c
 d:∀cl,ay cl m.d=s.d cl
noncomputable def dH(f:bH)(s:(cl:CL)->(x:XV)×' ay cl f.d=x): {x:Cb×bH//SM x.1 x.2}:=⟨(⟨f.a,f.b,f.c,λcl=>(s cl).1⟩,f),⟨rfl,rfl,rfl,λcl=>(s cl).2⟩⟩
def Iy:List {x:Cb×bH//SM x.1 x.2}:=[dH f0 s0,dH f1 s1,dH f2 s2,dH f3 s3,dH f4 s4,dH f5 s5,dH f6 s6,dH f7 s7,dH f8 s8,dH f9 s9,dH PJ T0,dH PI TW,dH PG TT,dH PF TO,dH PE TK,dH PD TI,dH PC TD,dH PB TC,dH PA Ty,dH Pz Tx,dH Py Ts,dH Px Tm,dH Pw Tl,dH Pu Tk,dH I9 Tb,dH Pr Ta,dH Pq SZ,dH Pp SU,dH Po SL,dH Pn SF,dH Pk SC,dH Pj SB,dH Ph Sr,dH Pg Sc,dH Pf RF,dH Pe Rs,dH Pd Re,dH Pc Q1,dH Pb QR,dH Pa QQ,dH O9 QP,dH O8 Qr,dH O7 Qb,dH O6 P9,dH O5 P8,dH Nh P7,dH I8 P6,dH O4 P5,dH O3 P4,dH O2 P3,dH O1 P2,dH O0 P1,dH OZ PQ,dH OY PP,dH OX PH,dH OW Pv,dH OV Ps,dH OU Pm,dH OT Pi,dH OS OK,dH OR Oy,dH OQ Os,dH OP Op,dH OO On,dH ON Ok,dH OM N0,dH OL NM,dH OJ NE,dH Ng NA,dH OI Nw,dH OH No,dH OG Mo,dH Fx Md,dH OF L9,dH OE KM,dH OD KE,dH OC KB,dH OB Kx,dH t8 Yz,dH OA Kk,dH Oz Kj,dH Fw Yy,dH GF Yx,dH Ox Ki,dH Ow Kb,dH Ov Jn,dH I7 IR,dH Ou IO,dH Af Yw,dH Ot IN,dH t7 Xa]
theorem Ix{f:Nat}{s:Cb}(e:xH[f]?=some s):∃mf,jL[f]?=some mf/\SM s mf:=by
 rw[show xH=Iy.map λx=>x.1.1 from rfl,dR]at e
 obtain⟨x,h,rfl⟩:=aC.mp e;exact⟨x.1.2,by rw[show jL=Iy.map λx=>x.1.2 from rfl,dR,h];rfl,x.2⟩
section
variable{C:dX}{p p2 q:Pt C}{env:Env}
theorem bc(E:Ex p p2)(up:∀b k,p.W.d b=some k->p2.W.d b=some k)(Ag:p2.m=p.m)(X:eY (nQ env) (LB true p2.j'.m.a.length) p2.j' q)(dead:∀a,nQ env a->p.I.get? a=none):
  ∃q':Pt C,q'.s=q.s/\q'.m=q.m.I List.tail/\Ex p q'/\∀v u,VR C q.W q.I v u->VR C q'.W q'.I v u:=by
 obtain⟨W,s,⟨pm,rg,ni⟩,rel⟩:=q;have lev:rg.length=p.m.a.length+1:=X.m.trans (by show(p2.m.I ([]:: ·)).a.length=_;rw[Ag];rfl)
 induction rg using aQ with
 |nil=>contradiction
 |cons r rr=>
  have ll:rr.length=p.m.a.length:=pD lev;have hU:XE λP=>∃j,P=.b rr.length j:=λP ⟨j,e⟩=>⟨_,j,e⟩
  have no:∀{b k},p.W.d b=some k->¬∃j,k.1=.b rr.length j:=λ{b k} e ⟨j,z⟩=>by
   obtain⟨P,x⟩:=k;subst z;obtain⟨c,h,J⟩:=p.r.j b _ x e;change p.m.a.reverse[rr.length]?.bind (·[j]?)=some c at h
   rw[aV (by rw[cM,ll];exact aH _)]at h
   exact nn h
  have XP:∀{k},jU p.m k->¬∃j,k=.b rr.length j:=λ{k} g ⟨j,z⟩=>by
   subst z;change p.m.a.reverse[rr.length]?.bind (·[j]?)=some .d at g
   rw[aV (by rw[cM,ll];exact aH _)]at g
   exact nn g
  have lb:∀{l i},LB true p2.j'.m.a.length l->Pl.b l i=.b rr.length i:=λ{l i} h=>by have:l+1=rr.length+1:=h.2.trans X.m.symm;rw[pD this]
  have nf:∀{b k},p.W.d b=some k->¬nQ env b:=λ{b k} e f=>by
   have:=p.r.d b k e;unfold eE at this
   rw[dead b f]at this
   exact ft this
  have Wp:∀{k},jU ⟨pm,r::rr,ni⟩ k->(¬∃j,k=.b rr.length j)->jU ⟨pm,rr,ni⟩ k:=λ{k} g n=>by
   induction k with
   |b l i=>exact JQ (W:=W) (λj z=>n ⟨j,z⟩) g
   |_=>exact g.elim
  let q1:Pt C:=Pt.un ⟨W,s,⟨pm,r::rr,ni⟩,rel⟩ (λP=>∃j,P=.b rr.length j) hU
  let q2:Pt C:=q1.re ⟨pm,rr,ni⟩ λb P x e c h=>JQ (λj z=>(kR (W:=W) (U:=λP=>∃j,P=.b rr.length j) e).2 ⟨j,z⟩) h
  refine⟨q2,rfl,rfl,⟨X.w.trans (by rw[show p2.j'.s=p2.s from rfl,E.w];rfl),λa o x=>?_,λa k e=>?_,λa t e J=>(X.c a t (up _ _ e) (nf e)).trans (E.c a t e id),λa i b e=>(X.A a i b (up _ _ e)).trans (E.A a i b e),λk g=>?_,ll,λa J l=>X.s a (λf=>?_) (E.s a id l)⟩,λv u x=>VR.u' (zd hU) v u x⟩
  .have:=X.j a o (E.j a o x);exact⟨zc (W:=W) (U:=λP=>∃j,P=.b rr.length j) this.1,this.2⟩
  .rcases X.u a k (up _ _ e)with o|g|⟨l,i,e1,h⟩|⟨J,f⟩
   .exact .inl (lV (W:=W) (U:=λP=>∃j,P=.b rr.length j) o (no e))
   .exact .inr (.inl (Wp g (no e)))
   .exact(no e ⟨i,e1.trans (lb h)⟩).elim
   .exact(nf e f).elim
  .have g2:jU p2.j'.m k:=by
    induction k with
    |b l i=>have g:aW W p2.m (.b l i)=some .d:=Ag▸g;exact zo (W:=W) (pm:=p2.m.b) (ni:=p2.m.c) (rr:=p2.m.a) (r:=[]) g
    |_=>exact g.elim
   rcases X.v k g2 with g'|⟨l,i,e1,h⟩
   .exact .inl (Wp g' (XP g))
   .exact(XP g ⟨i,e1.trans (lb h)⟩).elim
  .unfold eE at l
   rw[dead a f]at l
   exact ft l
theorem Ie:∀{n:Nat} f vs s k,gI n f vs s k->∃mf,jL[f]?=some mf
 |0,f,vs,s,k,h=>h.elim
 |n+1,f,vs,s,k,h=>dh (o:=xH[f]?) h λsf es J=>let⟨mf,h,_⟩:=Ix es;⟨mf,h⟩
theorem MG{N:Jd}(B:Ff C N)(hF:∀f mf,jL[f]?=some mf->∃o fd body sl names eZ,AO C N f mf o fd body sl names eZ){n:Nat}(ih:nG C (gI n) n):nG C (gI (n+1)) (n+1):=by
  intro A p f vs us k Q room V he K;refine dh (o:=xH[f]?) he λsf es he=>dh (o:=r7 sf vs) he λfull ef he=>?_
  obtain⟨mf,hf,S⟩:=Ix es;obtain⟨o,fd,body,sl,names,eZ,F⟩:=hF f mf hf;unfold r7 at ef
  rw[S.a,S.c]at ef
  split at ef
  .rename_i xo;obtain rfl:=si ef;have ul:=V.bd';have dl:=F.d.K';refine codeAny_call_function (by have:=room.d;exact lS ja jb [.a (.a (.a ja (.a (.m 2 (.a jc aU)) aU)) qz) jb] rfl this) (p.e' _ _ F.g) F.q F.t F.p F.w ?_ (F.y p.s us p.e' (ul▸xo.1) (ul▸dl▸xo.2) _ _ _ _ ?_)
   .obtain⟨c,oc,vs,t,e1,e2,e3,e4⟩:=F.r;exact⟨c,oc,vs,t,e1,p.e' _ _ e2,e3,e4⟩
   rw[F.u];refine wpAny_newFunctionEnv_cells F.c ?_ λenv YX s' x=>?_
   .intro p hp;have hm:p.1∈names:=(List.of_mem_zip (show(p.1,p.2)∈_ from hp)).1
    rcases F.a p.1 hm with k|k
    .exact .inl k
    .exact .inr ⟨k,kF _ _ _ (cV k)⟩
   subst YX;obtain⟨mc,hmc,hnl⟩:=F.k;refine⟨⟨mc,hmc.keeps λb o e=>x.toInCall.keep b o (p.e' b o e),hnl⟩,codeAny_func ?_⟩
   have V2:ly p (vs++(mf.b.drop (vs.length+mf.b.length-mf.a)).map .a) (us++eZ.drop (us.length+eZ.length-mf.a)):=by rw[ul,<-dl];exact V.bg' (ly.be' (bR.T' _ (bR.H' ⟨λa o e=>p.r.i a o e.2,λJ J e=>(nomatch (e:(none:aaa)=some _)),λJ J e=>(nomatch (e:(none:aaa)=some _))⟩ _ _ F.d)))
   obtain⟨p2,rfl,Ag,E,up,ek,L1,dead⟩:=EO (k:=mf.c-mf.a) F V2 (by rw[aa,ao,List.length_drop];exact Mm xo.1 xo.2) x
   have H:Hy ⟨C,N,gI n,n⟩:=⟨B,ih,Ie⟩;have X:=F.v H;have fe:(vs.map MV.J++(mf.b.drop (vs.length+mf.b.length-mf.a)).map MV.a).map some=(vs++(mf.b.drop (vs.length+mf.b.length-mf.a)).map MV.a).map λ(v:MV)=>some v.J:=by rw[aD,aD,eX,eX,eX];rfl
   rw[fe,S.b,S.a,<-S.d]at he
   refine X.a (k:=eF k) ⟨p2.j',callEnvC fd p.I.objs.size (C.e f),A.deeper (callEnvC fd p.I.objs.size (C.e f)),_,ek,rfl,F.l,room.V _,L1⟩ (by show ay (gI n) mf.d _ (p2.m.I ([]:: ·)) (eF k);rw[Ag];exact he) λq loc fl fw E4 L4 FR hk=>?_
   obtain⟨q',Ja,Yj,E',V'⟩:=bc E up Ag E4 dead;rw[<-Ja]
   induction fl with
   |a=>
    obtain rfl:=(show fw=.next from FR)
    exact K q' .h .none E' rfl (Yj▸hk)
   |b v=>
    obtain⟨u,rfl,V3⟩:=FR;refine iS hk λpv ev hk=>?_
    subst ev;exact K q' pv u E' (V' _ _ V3) (Yj▸hk)
   |c=>exact hk.elim
  .exact nn ef
theorem Wq{N:Jd}(B:Ff C N)(hF:∀f mf,jL[f]?=some mf->∃o fd body sl names eZ,AO C N f mf o fd body sl names eZ)(n:Nat):nG C (gI n) n:=by
 induction n with
 |zero=>exactλroom V he K=>he.elim
 |succ n ih=>exact MG B hF @ih
end

theorem lH{α:Type}{n:Str}:∀{names:aab}{us:List α}{k:Nat},names.Nodup->names[k]?=some n->(names.zip us).lookup n=us[k]?
 |[],_,_,_,h=>nn h
 |_::_,[],_,_,_=>rfl
 |x::names,u::us,k,nd,h=>by
  rw[cD]at nd
  rw[List.zip_cons_cons,dJ]
  induction k using iV with
  |zero=>obtain rfl:=si h;rw[beq_self_eq_true];rfl
  |succ k=>rw[beq_eq_false_iff_ne.mpr λe:n=x=>nd.1 (e▸gZ h)];exact lH nd.2 h
noncomputable def IL(acc:aak)(x:Str×Value):aak:=if(List.lookup x.1 acc).isNone=true then acc++[(x.1,x.2)]else acc
def pP(acc:aak)(L:aak):aak:=L.foldl IL acc
theorem uB{n:Str}:∀{L acc:aak},List.lookup n (pP acc L)=(List.lookup n acc).or (List.lookup n L)
 |[],acc=>Option.or_none.symm
 |y::L,acc=>by
  show List.lookup n (pP (IL acc y) L)=_;rw[uB];unfold IL;split
  .rw[List.lookup_append,Option.or_assoc,<-List.lookup_append];rfl
  .next h=>
   rw[dJ];by_cases e:n=y.1
   .rw[<-e]at h
    induction q:List.lookup n acc
    .rw[q]at h;exact absurd rfl h
    .rfl
   .rw[beq_eq_false_iff_ne.mpr e]
theorem Kr{f:Str->V9}:∀{names:aab}{vs:S9},(∀p∈names.zip vs,f p.1=some p.2)->names.length=vs.length->names.filterMap (λn=>(f n).map (λx=>(n,x)))=names.zip vs
 |[],_,_,_=>rfl
 |_::_,[],_,h=>nomatch h
 |x::names,v::vs,h,hl=>(List.filterMap_cons_some (f:=λn=>(f n).map λy=>(n,y)) (a:=x) (congrArg (Option.map λy=>(x,y)) (h (x,v) aj))).trans (congrArg _ (Kr (λp hp=>h p (af _ hp)) (pD hl)))
theorem wj{Q:aak->Shared->Prop}:∀{L acc:aak},Q (pP acc L) s->
  wpAny M A (forIn L acc λx __s=>if(List.lookup x.fst __s).isNone=true then pure (ForInStep.yield (__s++[(x.fst,x.snd)]))else pure (ForInStep.yield __s)) Q E s
 |[],acc,h=>by rw[List.forIn_nil];exact wpAny_pure h
 |x::L,acc,h=>by
  rw[List.forIn_cons];have e:(if(List.lookup x.fst acc).isNone=true then(pure (ForInStep.yield (acc++[(x.fst,x.snd)])):Sem (ForInStep (aak)))else pure (ForInStep.yield acc))=pure (ForInStep.yield (IL acc x)):=by
   unfold IL
   split<;>rfl
  rw[e];exact wpAny_bind (wpAny_pure (wj h))
theorem De{α:Type}{Q:α->Shared->Prop}{c:Prop}[Decidable c]{x y:Sem α}(h:¬c)(k:wpAny M A y Q E s):wpAny M A (ite c x y) Q E s:=by rw[if_neg h];exact k
theorem QI{names:aab}(nd:names.Nodup)(dl:eZ.length<=names.length)(l2:names.length<=us.length+eZ.length):
  List.filter (λn=>(List.lookup n (names.zip us)).isNone) (List.take (names.length-eZ.length) names)=[]:=by
 rw[List.filter_eq_nil_iff];intro n hn;obtain⟨k,hk⟩:=vP.mp hn;rw[List.getElem?_take]at hk
 split at hk
 .rename_i lt;rw[lH nd hk,b7 (aR lt (om l2))];exact aO
 .exact nn hk
theorem Vo{N D U k:Nat}(dl:D<=N)(l2:N<=U+D)(q:U<=k):k-(N-D)=U+D-N+(k-U):=by
 have a:U=(N-D)+(U+D-N):=xw (m:=D) (by rw[i6,iZ dl,kK l2])
 refine Nat.sub_eq_of_eq_add ?_;rw[i6,fE (U+D-N),<-a,kK q]
theorem Ml{names:aab}(nd:names.Nodup)(dl:eZ.length<=names.length)(l1:us.length<=names.length)(l2:names.length<=us.length+eZ.length){p:Str×Value}(hp:p∈names.zip (us++eZ.drop (us.length+eZ.length-names.length))):List.lookup p.1 (pP (names.zip us) ((names.drop (names.length-eZ.length)).zip eZ))=some p.2:=by
 obtain⟨k,hk⟩:=vP.mp hp;rw[List.getElem?_zip_eq_some]at hk
 obtain⟨k1,k2⟩:=hk;rw[uB];by_cases q:k<us.length
 .rw[aZ q]at k2
  rw[lH nd k1,k2];rfl
 .have q:=nI.mp q;rw[bP q,List.getElem?_drop]at k2
  rw[lH nd k1,aV q];have e1:names.length-eZ.length+(k-(names.length-eZ.length))=k:=kK (aA (om l2) q);have e2:=Vo dl l2 q;refine(lH (k:=k-(names.length-eZ.length)) (nd.sublist (List.drop_sublist _ _)) ?_).trans ?_
  .rw[List.getElem?_drop,e1];exact k1
  .rw[e2];exact k2
theorem wy{α:Type}{Q:α->Shared->Prop}{a b:α}(e:a=b)(h:Q a s):Q b s:=e▸h
theorem VF{names us eZ:Nat}(l1:us<=names)(l2:names<=us+eZ):names=us+(eZ-(us+eZ-names)):=xw (m:=us+eZ-names) (by rw[dZ,iZ (om (fE eZ us▸bY l1 eZ)),kK l2])
theorem Ia{α:Type}{Q:α->Shared->Prop}{dv:Value}{f:Option (WA)->Sem α}(hd:(dv=.none/\eZ=[])\/∃T o n,dv=.ref T/\s.heap.get? T=some o/\o.data=.seq eZ.toArray n)(k:∀r:Option (WA),r.getD #[]=eZ.toArray->wpAny M A (f r) Q E s):wpAny M A (seqItems? dv>>=f) Q E s:=by
 rcases hd with⟨e,rfl⟩|⟨T,o,n,e,ho,hs⟩
 .rw[e];exact wpAny_bind (wpAny_pure (k _ rfl))
 .rw[e];exact wpAny_bind (wpAny_seqItems ho hs (k _ rfl))
theorem EW{nm qn:Str}{ar:List Arg}{kd:aas}{df:WB}{body:FuncBody}{sc:Scope}{gl:Addr}{cl:aar}{dv kv doc pm:Value}{an:Option Addr}{code ct:Value}{bt:Addr}(nd:(ar.map (·.arg)).Nodup)(dl:eZ.length<=(ar.map (·.arg)).length)(hd:(dv=.none/\eZ=[])\/∃T o n,dv=.ref T/\s.heap.get? T=some o/\o.data=.seq eZ.toArray n)(l1:us.length<=(ar.map (·.arg)).length)(l2:(ar.map (·.arg)).length<=us.length+eZ.length):
  BindsTo s ⟨nm,qn,⟨[],ar,none,[],kd,none,df⟩,body,sc,gl,cl,dv,kv,doc,pm,an,code,ct,bt⟩ ⟨us,[]⟩ ((ar.map (·.arg)).zip (us++eZ.drop (us.length+eZ.length-(ar.map (·.arg)).length))):=by
 intro M A E Q hQ;refine wpAny_bind (wpAny_pure ?_);refine Ia hd λr er=>?_
 have ed:(r.getD #[]).toList=eZ:=by rw[er]
 have ez:((r.getD #[]).toList.drop ((r.getD #[]).toList.length-(ar.map (·.arg)).length))=eZ:=by rw[ed,Nat.sub_eq_zero_of_le dl];rfl
 refine De (λh=>?_) ?_
 .rw[bg]at h
  exact absurd l1 (Nat.not_le.mpr (of_decide_eq_true h.1))
 refine De (λh=>?_) ?_
 .have h2:(!(List.filter (λn=>(List.lookup n ((ar.map (·.arg)).zip us)).isNone) (List.take ((ar.map (·.arg)).length-((r.getD #[]).toList.drop ((r.getD #[]).toList.length-(ar.map (·.arg)).length)).length) (ar.map (·.arg)))).isEmpty)=true:=h
  rw[ez,QI nd dl l2]at h2
  exact ft h2
 refine wpAny_bind (wj ?_);refine wpAny_bind (wpAny_pure ?_);refine De aO ?_;refine wpAny_pure (wy ?_ hQ);refine Eq.trans ?_ (congrArg (List.filterMap λn=>(List.lookup n (pP _ _)).map (n,·)) (az (ar.map (·.arg))).symm)
 show _=List.filterMap (λn=>(List.lookup n (pP ((ar.map (·.arg)).zip us) (((ar.map (·.arg)).drop ((ar.map (·.arg)).length-((r.getD #[]).toList.drop ((r.getD #[]).toList.length-(ar.map (·.arg)).length)).length)).zip ((r.getD #[]).toList.drop ((r.getD #[]).toList.length-(ar.map (·.arg)).length))))).map (n,·)) _
 rw[ez];exact(Kr (λp hp=>Ml nd dl l1 l2 hp) (by rw[aa,List.length_drop];exact VF l1 l2)).symm
theorem Vm{p:Arguments}(h1:p.posonlyargs=[])(h3:p.kwonlyargs=[])(h4:p.vararg=none)(h5:p.kwarg=none):p=⟨[],p.args,none,[],p.kw_defaults,none,p.defaults⟩:=by
 obtain⟨a,b,c,d,e,f,g⟩:=p;dsimp only at h1 h3 h4 h5
 subst h1 h3 h4 h5;rfl
theorem Cs{names:aab}(h1:fd.params.posonlyargs=[])(h2:fd.params.args.map (·.arg)=names)(h3:fd.params.kwonlyargs=[])(h4:fd.params.vararg=none)(h5:fd.params.kwarg=none)(nd:names.Nodup)(dl:eZ.length<=names.length)(hd:(fd.defaults=.none/\eZ=[])\/∃T o n,fd.defaults=.ref T/\s.heap.get? T=some o/\o.data=.seq eZ.toArray n)(l1:us.length<=names.length)(l2:names.length<=us.length+eZ.length):BindsTo s fd ⟨us,[]⟩ (names.zip (us++eZ.drop (us.length+eZ.length-names.length))):=by
 subst h2;have e:fd=⟨fd.name,fd.qualname,⟨[],fd.params.args,none,[],fd.params.kw_defaults,none,fd.params.defaults⟩,fd.body,fd.scope,fd.globals,fd.closure,fd.defaults,fd.kwdefaults,fd.doc,fd.pyModule,fd.annotations,fd.code,fd.closureTuple,fd.builtins⟩:=congrArg (λp=>FuncData.mk fd.name fd.qualname p fd.body fd.scope fd.globals fd.closure fd.defaults fd.kwdefaults fd.doc fd.pyModule fd.annotations fd.code fd.closureTuple fd.builtins) (Vm h1 h3 h4 h5)
 rw[e];exact EW nd dl hd l1 l2

section
abbrev Kn:=List (Nat×Obj)
noncomputable def gG(a:Nat):Kn->Option Obj
 |[]=>none
 |(b,o)::r=>match Nat.beq a b with
  |true=>some o
  |false=>gG a r
structure SP where
 K:Kn
 n:Nat
 c:aau
 d:Drawn
 a:Nat
 b:OsState
structure lO(s:Shared)(sp:SP):Prop where
 b:∀a o,gG a sp.K=some o->s.heap.objs[a]?=some o
 c:s.heap.objs.size=sp.n
 d:s.gens=sp.c
 g:s.drawn=sp.d
 e:s.toks=sp.a
 f:s.os=sp.b
noncomputable def Ug(m:Nat)(U:S5)(a:Nat):Bool:=Nat.ble m a||U.any (Nat.beq a)
noncomputable def oB{α β:Type}(x:Option α)(f:α->Option β):Option β:=match x with
 |some o=>f o
 |none=>none
noncomputable def tB{β:Type}(x:Bool)(y:Option β):Option β:=match x with
 |true=>y
 |false=>none
noncomputable def eB{α β:Type}(x:Option α)(f:α->β)(y:Option β):Option β:=match x with
 |some o=>some (f o)
 |none=>y
noncomputable def nB{β:Type}(x:Bool)(y:Option β):Option β:=match x with
 |true=>none
 |false=>y
def qF(st:(Code->Sem Fin)->Program->World->Shared->Thread->Step)(uJ:Code->Sem Fin)(p:Program)(w:World)(m:Nat)(U:S5):SP->Thread->Option (SP×Thread)
 |⟨K,n,gens,drawn,toks,os⟩,⟨GG,code,pos,iB⟩=>match GG with
  |.load a _ k=>oB (gG a K) λo=>oB (alive o) λo'=>some (⟨K,n,gens,drawn,toks,os⟩,⟨k o',code,pos,iB⟩)
  |.update a _ f k=>tB (Ug m U a) (oB (gG a K) λo=>oB (alive o) λJ=>some (⟨(a,f o)::K,n,gens,drawn,toks,os⟩,⟨k (),code,pos,iB⟩))
  |.alloc o k=>some (⟨(n,o)::K,n+1,gens,drawn,toks,os⟩,⟨k n,code,pos,iB⟩)
  |.loadIfAlive a k=>oB (gG a K) λo=>some (⟨K,n,gens,drawn,toks,os⟩,⟨k (alive o),code,pos,iB⟩)
  |c=>match st uJ p w ⟨{},gens,drawn,toks,os⟩ ⟨c,code,pos,iB⟩with
   |.go s' t'=>some (⟨K,n,s'.gens,s'.drawn,s'.toks,s'.os⟩,t')
   |.halt _ _=>none
structure Fr(m:Nat)(U:S5)(s s':Shared):Prop where
 c:∀b,b<m->b∉U->s'.heap.objs[b]?=s.heap.objs[b]?
 e:s.heap.objs.size<=s'.heap.objs.size
 d:s'.heap.life=s.heap.life
theorem Fr.I(m:Nat)(U:S5)(s:Shared):Fr m U s s:=⟨λJ J J=>rfl,aH _,rfl⟩
theorem Fr.O{m:Nat}{U:S5}{s s' s2:Shared}(a:Fr m U s s')(b:Fr m U s' s2):Fr m U s s2:=⟨λx h1 h2=>(b.c x h1 h2).trans (a.c x h1 h2),aA a.e b.e,b.d.trans a.d⟩
variable{uJ:Code->Sem Fin}{p:Program}{w:World}{m:Nat}{U:S5}
theorem kH{h:Heap}{a:Nat}{o:Obj}(e:h.objs[a]?=some o):h.get? a=alive o:=by unfold Heap.get?;rw[e];obtain⟨c,d,dt,sl⟩:=o;induction dt<;>rfl
theorem j3{a b:Nat}{o:Obj}{K:Kn}:gG a ((b,o)::K)=if a=b then some o else gG a K:=by
 show(match Nat.beq a b with|true=>some o|false=>gG a K)=_
 rw[BT.beq_eq];by_cases h:a=b<;>simp[h]
def TS(uJ:Code->Sem Fin)(p:Program)(w:World)(m:Nat)(U:S5)(s:Shared)(t:Thread)(r:SP×Thread):Prop:=∃s',step uJ p w s t=.go s' r.2/\lO s' r.1/\Fr m U s s'/\m<=r.1.n
noncomputable def isH:Sem Fin->Bool
 |.load _ _ _=>true
 |.update _ _ _ _=>true
 |.alloc _ _=>true
 |.loadIfAlive _ _=>true
 |_=>false
theorem Z9{x:Step}{f:Shared->Thread->SP×Thread}{r:SP×Thread}{C:Prop}(h:(match x with|.go s' t'=>some (f s' t')|.halt _ _=>none)=some r)(k:∀s t,x=.go s t->f s t=r->C):C:=by
 induction x with
 |halt o s=>exact nn h
 |go s t=>exact k s t rfl (aq h)
theorem uN{α β:Type}{x:Option α}{f:α->Option β}{r:β}{C:Prop}(h:oB x f=some r)(k:∀o,x=some o->f o=some r->C):C:=by
 induction x with
 |none=>exact nn h
 |some o=>exact k o rfl h
theorem Ji{β:Type}{x:Bool}{y:Option β}{r:β}{C:Prop}(h:tB x y=some r)(k:x=true->y=some r->C):C:=by
 induction x with
 |false=>exact nn h
 |true=>exact k rfl h
theorem U4{s:Shared}{sp:SP}(R:lO s sp):s=⟨s.heap,sp.c,sp.d,sp.a,sp.b⟩:=by rw[<-R.d,<-R.g,<-R.e,<-R.f]
section
variable{s:Shared}{sp:SP}{code:Code}{pos:Pos}{iB:List Frame}{r:SP×Thread}
theorem K5{c:Sem Fin}(hi:isH c=false)
  (h:(match step uJ p w ⟨{},sp.c,sp.d,sp.a,sp.b⟩ ⟨c,code,pos,iB⟩with
    |.go s' t'=>some ((⟨sp.K,sp.n,s'.gens,s'.drawn,s'.toks,s'.os⟩:SP),t')
    |.halt _ _=>none)=some r)(R:lO s sp)(hm:m<=sp.n):TS uJ p w m U s ⟨c,code,pos,iB⟩ r:=by
 refine Z9 (f:=λs' t'=>((⟨sp.K,sp.n,s'.gens,s'.drawn,s'.toks,s'.os⟩:SP),t')) h λEa aah q e=>?_
 have h2:=PySem.W.step_heap (H:=s.heap) (λa b k e=>by rw[e]at hi;exact tf hi) (λa b f k e=>by rw[e]at hi;exact tf hi) (λa k e=>by rw[e]at hi;exact tf hi) (λa k e=>by rw[e]at hi;exact tf hi) q
 rw[<-U4 R]at h2
 rw[<-e];exact⟨_,h2,⟨R.b,R.c,rfl,rfl,rfl,rfl⟩,⟨λJ J J=>rfl,aH _,rfl⟩,hm⟩
theorem Qj{a:Nat}{q:V9}{k:Obj->Sem Fin}(h:qF step uJ p w m U sp ⟨.load a q k,code,pos,iB⟩=some r)(R:lO s sp)(hm:m<=sp.n):TS uJ p w m U s ⟨.load a q k,code,pos,iB⟩ r:=
 uN h λo e h=>uN h λo' al h=>by
  rw[<-aq h];have g:s.heap.get? a=some o':=(kH (R.b a o e)).trans al;refine⟨s,?_,R,Fr.I ..,hm⟩;show(match s.heap.get? a with|some o=>Step.go s ⟨k o,code,pos,iB⟩|none=>_)=_
  rw[g]
theorem Qk{a:Nat}{k:Option Obj->Sem Fin}(h:qF step uJ p w m U sp ⟨.loadIfAlive a k,code,pos,iB⟩=some r)(R:lO s sp)(hm:m<=sp.n):TS uJ p w m U s ⟨.loadIfAlive a k,code,pos,iB⟩ r:=uN h λo e h=>by rw[<-aq h];exact⟨s,congrArg (λx=>Step.go s ⟨k x,code,pos,iB⟩) (kH (R.b a o e)),R,Fr.I ..,hm⟩
theorem Gj{s':Shared}{K:Kn}{N:Nat}(R:lO s sp)(e:s'=⟨s'.heap,s.gens,s.drawn,s.toks,s.os⟩)(h:∀a o,gG a K=some o->s'.heap.objs[a]?=some o)(z:s'.heap.objs.size=N):lO s' ⟨K,N,sp.c,sp.d,sp.a,sp.b⟩:=by rw[e];exact⟨h,z,R.d,R.g,R.e,R.f⟩
theorem K6{ob:Obj}{k:Addr->Sem Fin}(h:qF step uJ p w m U sp ⟨.alloc ob k,code,pos,iB⟩=some r)(R:lO s sp)(hm:m<=sp.n):TS uJ p w m U s ⟨.alloc ob k,code,pos,iB⟩ r:=by
 rw[<-aq h];have z:∀i,(s.heap.push ob).objs[i]?=if i=s.heap.objs.size then some ob else s.heap.objs[i]? :=λi=>Array.getElem?_push
 refine⟨⟨s.heap.push ob,s.gens,s.drawn,s.toks,s.os⟩,?_,Gj R rfl (λb x hb=>?_) ?_,⟨λb hb hu=>?_,?_,rfl⟩,dQ hm⟩
 .exact congrArg (λx=>Step.go ⟨s.heap.push ob,s.gens,s.drawn,s.toks,s.os⟩ ⟨k x,code,pos,iB⟩) R.c
 .rw[j3]at hb
  refine(z b).trans ?_;rw[R.c];by_cases q:b=sp.n
  .rw[if_pos q]at hb⊢;exact hb
  .rw[if_neg q]at hb⊢;exact R.b b x hb
 .show(s.heap.objs.push ob).size=_;rw[oQ,R.c]
 .exact(z b).trans (if_neg (pF (aR hb (R.c▸hm))))
 .show s.heap.objs.size<=(s.heap.objs.push ob).size;rw[oQ];exact bL _
theorem Vx{a b:Nat}(e:Ug m U a=true)(hb:b<m)(hu:b∉U):a≠b:=by
 rintro rfl;unfold Ug at e
 rw[Bool.or_eq_true]at e
 rcases e with e|e
 .exact absurd hb (nI.mpr (fy e))
 .obtain⟨x,hx,hy⟩:=cI.mp e;exact hu (bM hy▸hx)
theorem UZ{a:Nat}{q:V9}{f:Obj->Obj}{k:Unit->Sem Fin}(h:qF step uJ p w m U sp ⟨.update a q f k,code,pos,iB⟩=some r)(R:lO s sp)(hm:m<=sp.n):TS uJ p w m U s ⟨.update a q f k,code,pos,iB⟩ r:=
 Ji h λe0 h=>uN h λo e h=>uN h λo' al h=>by
  rw[<-aq h];have ha:=R.b a o e;have g:s.heap.get? a=some o':=(kH ha).trans al;have z:∀i,(s.heap.update a f).objs[i]?=if a=i then(s.heap.objs[i]?).map f else s.heap.objs[i]? :=λi=>Array.getElem?_modify
  refine⟨⟨s.heap.update a f,s.gens,s.drawn,s.toks,s.os⟩,?_,Gj R rfl (λb x hb=>?_) ?_,⟨λb hb hu=>(z b).trans (if_neg (Vx e0 hb hu)),?_,rfl⟩,hm⟩
  .show(if(s.heap.get? a).isSome=true then Step.go ⟨s.heap.update a f,s.gens,s.drawn,s.toks,s.os⟩ ⟨k (),code,pos,iB⟩else _)=_
   rw[g];rfl
  .rw[j3]at hb
   refine(z b).trans ?_;by_cases q:b=a
   .rw[if_pos q]at hb
    rw[if_pos q.symm,q,ha];exact hb
   .rw[if_neg q]at hb
    rw[if_neg (gE q)];exact R.b b x hb
  .show(s.heap.objs.modify a f).size=_;rw[Array.size_modify];exact R.c
  .show s.heap.objs.size<=(s.heap.objs.modify a f).size;rw[Array.size_modify];exact aH _
theorem wk:∀{t:Thread},qF step uJ p w m U sp t=some r->lO s sp->m<=sp.n->TS uJ p w m U s t r
 |⟨c,code,pos,iB⟩=>by
  induction c using Sem.casesOn with
  |load a q k=>exact Qj
  |update a q f k=>exact UZ
  |alloc o k=>exact K6
  |loadIfAlive a k=>exact Qk
  |_=>intro h R hm;refine K5 ?_ h R hm;rfl
end
section
variable (st:(Code->Sem Fin)->Program->World->Shared->Thread->Step)(ok:Nat->V9->Thread->Bool)(uJ:Code->Sem Fin)(p:Program)(w:World)(jv:Nat)(pU:V9)(m:Nat)(U:S5)
noncomputable def NC(b:Nat):Nat->SP->Thread->Option (Flow×SP×Code×Pos)
 |0,_,_=>none
 |n+1,s,t=>eB (endAt b t) (λf=>(f,s,t.code,t.pos)) (tB (ok jv pU t) (oB (qF st uJ p w m U s t) λr=>NC b n r.1 r.2))
noncomputable def Xx:Nat->SP->Thread->Option (SP×Thread)
 |0,s,t=>some (s,t)
 |n+1,s,t=>nB (through t)<|tB (ok jv pU t) (oB (qF st uJ p w m U s t) λr=>Xx n r.1 r.2)
end
variable{tb:String->Option Builtin}{jv:Nat}{pU:V9}{b:Nat}
theorem Em{n:Nat}{s:Shared}{t:Thread}{f:Flow}(h:endAt b t=some f):segRun tb p w jv pU b (n+1) s t=some (f,s,t.code,t.pos):=by
 show(match endAt b t with|some f=>_|none=>_)=_
 rw[h]
theorem Hl{n:Nat}{s s':Shared}{t t':Thread}(h:endAt b t=none)(k:stepOk jv pU t=true)(e:step (denote tb) p w s t=.go s' t'):segRun tb p w jv pU b (n+1) s t=segRun tb p w jv pU b n s' t':=by
 show(match endAt b t with|some f=>_|none=>match stepOk jv pU t with|false=>_|true=>match step (denote tb) p w s t with|.go s' t'=>_|.halt _ _=>_)=_
 rw[h,k,e]
theorem K3{n:Nat}{s s':Shared}{t t':Thread}(h:through t=false)(k:stepOk jv pU t=true)(e:step (denote tb) p w s t=.go s' t'):topGo tb p w jv pU (n+1) s t=topGo tb p w jv pU n s' t':=by
 show(match through t with|true=>_|false=>match stepOk jv pU t with|false=>_|true=>match step (denote tb) p w s t with|.go s' t'=>_|.halt _ _=>_)=_
 rw[h,k,e]
def Th(tb:String->Option Builtin)(p:Program)(w:World)(jv:Nat)(pU:V9)(m:Nat)(U:S5)(b n:Nat)(s:Shared)(t:Thread)(r:Flow×SP×Code×Pos):Prop:=∃s',segRun tb p w jv pU b n s t=some (r.1,s',r.2.2)/\lO s' r.2.1/\Fr m U s s'/\m<=r.2.1.n
def Hb(tb:String->Option Builtin)(p:Program)(w:World)(jv:Nat)(pU:V9)(m:Nat)(U:S5)(n:Nat)(s:Shared)(t:Thread)(r:SP×Thread):Prop:=∃s',topGo tb p w jv pU n s t=some (s',r.2)/\lO s' r.1/\Fr m U s s'/\m<=r.1.n
theorem Zw{α β:Type}{x:Option α}{f:α->β}{y:Option β}{r:β}{C:Prop}(h:eB x f y=some r)(k1:∀o,x=some o->f o=r->C)(k2:x=none->y=some r->C):C:=by
 induction x with
 |none=>exact k2 rfl h
 |some o=>exact k1 o rfl (aq h)
theorem ce{β:Type}{x:Bool}{y:Option β}{r:β}{C:Prop}(h:nB x y=some r)(k:x=false->y=some r->C):C:=by
 induction x with
 |true=>exact nn h
 |false=>exact k rfl h
theorem Qs{r:Flow×SP×Code×Pos}(n:Nat):∀{s:Shared}{sp:SP}{t:Thread},NC step stepOk (denote tb) p w jv pU m U b n sp t=some r->lO s sp->m<=sp.n->Th tb p w jv pU m U b n s t r:=by
 induction n with
 |zero=>exactλh=>by exact nn h
 |succ n ih=>
  exactλ{s}{sp}{t} h R hm=>Zw (x:=endAt b t) (y:=tB (stepOk jv pU t) (oB (qF step (denote tb) p w m U sp t) λr=>NC step stepOk (denote tb) p w jv pU m U b n r.1 r.2)) (f:=λf=>(f,sp,t.code,t.pos)) h
   (λo he h=>by rw[<-h];exact⟨s,Em he,R,Fr.I ..,hm⟩)
   λhe h=>Ji h λhk h=>uN h λr hs h=>(wk hs R hm).elim λs2 q=>(ih h q.2.1 q.2.2.2).elim λs3 q3=>⟨s3,(Hl he hk q.1).trans q3.1,q3.2.1,q.2.2.1.O q3.2.2.1,q3.2.2.2⟩
theorem VT{r:SP×Thread}(n:Nat):∀{s:Shared}{sp:SP}{t:Thread},Xx step stepOk (denote tb) p w jv pU m U n sp t=some r->lO s sp->m<=sp.n->Hb tb p w jv pU m U n s t r:=by
 induction n with
 |zero=>exactλ{s}{sp}{t} h R hm=>(aq h)▸⟨s,rfl,R,Fr.I ..,hm⟩
 |succ n ih=>exactλ{s}{sp}{t} h R hm=>ce (x:=through t) (y:=tB (stepOk jv pU t) (oB (qF step (denote tb) p w m U sp t) λr=>Xx step stepOk (denote tb) p w jv pU m U n r.1 r.2)) h λhe h=>Ji h λhk h=>uN h λr hs h=>(wk hs R hm).elim λs2 q=>(ih h q.2.1 q.2.2.2).elim λs3 q3=>⟨s3,(K3 he hk q.1).trans q3.1,q3.2.1,q.2.2.1.O q3.2.2.1,q3.2.2.2⟩
theorem Me{n:Nat}{s:Shared}{sp dV:SP}{t t':Thread}(h:Xx step stepOk (denote tb) p w jv pU m U n sp t=some (dV,t'))(R:lO s sp)(hm:m<=sp.n):
  ∃s',topGo tb p w jv pU n s t=some (s',t')/\lO s' dV/\Fr m U s s'/\m<=dV.n:=VT n h R hm
end

end
section
noncomputable abbrev PW:Program:=PySem.Challenge.pw_rh0144_01
def Za(lo n:Nat):aaj:=(PW.main.body.drop lo).take n
def xq:Env:= {scope:=PW.main.scope,locals:=mainNs,globals:=mainNs,cells:=[],code:=.ref 13,frame:=some 14}
noncomputable abbrev p0:Pos:=⟨0,0,0,0⟩
abbrev cT:Code:=.body PW.main.body xq
abbrev bT:List Frame:=[topFrame p0]
theorem FE:step=PySem.W.Fast.tw8437177126325714943:=PySem.W.Fast.te8437177126325714943
theorem tO:denote=PySem.W.Fast.tw11892475500146522536:=PySem.W.Fast.te11892475500146522536
theorem zf:treeTable=PySem.W.Fast.tw14364793385576792824:=PySem.W.Fast.te14364793385576792824
theorem Sb:stepOk=PySem.W.Fast.tw6613529449190102663:=PySem.W.Fast.te6613529449190102663
theorem K4:execs=PySem.W.Fast.tw12563942051412417395:=PySem.W.Fast.te12563942051412417395
noncomputable def uR(o:Obj):Option Str:=match o.data with
 |.fields vs=>match vs.toList with
  |_:: .str q _::_=>some q
  |_=>none
 |_=>none
theorem Ic{h:Heap}{c:Nat}{o:Obj}{q:Str}(e:h.get? c=some o)(x:uR o=some q):h.CodeRec (.ref c) q:=by
 unfold uR at x
 induction hd:o.data with
 |fields vs=>
  rw[hd]at x
  dsimp only at x
  generalize hv:vs.toList=l at x
  obtain _|⟨a,_|⟨b,r⟩⟩:=l
  .exact nn x
  .exact nn x
  .induction b with
   |str u t=>obtain rfl:=si x;refine⟨c,o,vs,t,rfl,e,hd,?_⟩;rw[<-cg,hv];rfl
   |_=>exact nn x
 |_=>rw[hd]at x;exact nn x
structure vM(s:Shared)(sp:SP)(cd:S6):Prop where
 b:lO s sp
 c:∀p∈cd,∃o,s.heap.objs[p.1]?=some o/\uR o=some p.2
def Dy(as:Kn)(cs:S6):Flow×SP×Code×Pos->Flow×List (Option Obj)×List (Option Str)×Nat×aau×Drawn×Nat×OsState×Code×Pos
 |(f,sp,c,q)=>(f,as.map (λp=>gG p.1 sp.K),cs.map (λp=>(gG p.1 sp.K).bind uR),sp.n,sp.c,sp.d,sp.a,sp.b,c,q)
def ND(w:World)(U:S5)(N:Nat)(K:Kn)(n:Nat)(toks:Nat)(os:OsState)(l:aaj)(pos:Pos):Option (Flow×SP×Code×Pos):=
 NC PySem.W.Fast.tw8437177126325714943 PySem.W.Fast.tw6613529449190102663 (PySem.W.Fast.tw11892475500146522536 PySem.W.Fast.tw14364793385576792824) PW w 11 (some (.ref 6)) n U 1 N ⟨K,n,Array.mk [],boot_drawn,toks,os⟩
  ⟨(PySem.W.Fast.tw12563942051412417395 l xq).wrap doneF deadEnd id id,cT,pos,bT⟩
def IU(w:World)(P:Shared->Prop)(s:Shared)(t:Thread):Prop:=∃N r,topRun treeTable PW w 11 (some (.ref 6)) N s t=some r/\P r
noncomputable def CI(m:Nat)(U:S5)(GG:Kn)(K:Kn):Bool:=K.all λp=>Nat.blt p.1 m&& !U.any (Nat.beq p.1)&& !GG.any (λq=>Nat.beq p.1 q.1)
noncomputable def CJ(m:Nat)(U:S5)(C:S6):Bool:=C.all λp=>Nat.blt p.1 m&& !U.any (Nat.beq p.1)
theorem A4{m:Nat}{U:S5}{a:Nat}(h:(Nat.blt a m&& !U.any (Nat.beq a))=true):a<m/\a∉U:=by
 rw[bg,mq,List.any_eq_false]at h
 refine⟨fy h.1,λhm=>h.2 a hm (pH a)⟩
theorem vY{a:Nat}{o:Obj}:∀{K:Kn},gG a K=some o->(a,o)∈K
 |(b,x)::r,h=>by
  rw[j3]at h
  by_cases q:a=b
  .rw[if_pos q]at h;obtain rfl:=si h;subst q;exact aj
  .rw[if_neg q]at h;exact af _ (vY h)
theorem Bs{a:Nat}{o:Obj}{G:Kn}:∀{K:Kn},gG a (K++G)=some o->gG a K=some o\/gG a G=some o
 |[],h=>.inr h
 |(b,x)::r,h=>by
  rw[iM,j3]at h
  rw[j3];by_cases q:a=b
  .rw[if_pos q]at h⊢;exact .inl h
  .rw[if_neg q]at h⊢;exact Bs h
theorem wB{a:Nat}{G:Kn}:∀{K:Kn},K.any (λq=>Nat.beq a q.1)=false->gG a (K++G)=gG a G
 |[],h=>rfl
 |(b,x)::r,h=>by
  rw[dF,Bool.or_eq_false_iff]at h
  rw[iM,j3,if_neg (λe=>by subst e;rw[pH]at h;exact tf h.1)]
  exact wB h.2
theorem tS{a:Nat}{o:Obj}{K:Kn}:∀{F:Kn},F.map (λp=>gG p.1 K)=F.map (λp=>some p.2)->gG a F=some o->gG a K=some o
 |(b,x)::r,e,h=>by
  simp only[dD,List.cons.injEq]at e
  rw[j3]at h
  by_cases q:a=b
  .rw[if_pos q]at h;obtain rfl:=si h;subst q;exact e.1
  .rw[if_neg q]at h;exact tS e.2 h
theorem yu{K:Kn}:∀{H:S6},H.map (λp=>(gG p.1 K).bind uR)=H.map (λp=>some p.2)->∀p∈H,(gG p.1 K).bind uR=some p.2
 |x::r,e,p,h=>by
  simp only[dD,List.cons.injEq]at e
  rcases aF.mp h with rfl|h
  .exact e.1
  .exact yu e.2 p h
theorem HB{as:Kn}{cs:S6}{r:Flow×SP×Code×Pos}{s:Shared}{f:Flow}{A:List (Option Obj)}{B:List (Option Str)}{n t:Nat}{g:aau}{d:Drawn}{os:OsState}{c:Code}{q:Pos}
  (e:Dy as cs r=(f,A,B,n,g,d,t,os,c,q)):(r.1,s,r.2.2)=(f,s,c,q):=congrArg (λx=>(x.1,s,x.2.2.2.2.2.2.2.2)) e
theorem EI{U:S5}{n n' toks Ax:Nat}{os:OsState}{NG:Pos}{GG B8 nw G:Kn}{D H:S6}{s s':Shared}{r:Flow×SP×Code×Pos}
  (e:Dy (B8++nw) H r=(.next,(B8++nw).map (λp=>some p.2),H.map (λp=>some p.2),n',Array.mk [],boot_drawn,Ax,os,cT,NG))
  (hG:(CI n U GG G&&CJ n U D)=true)(K:vM s ⟨GG++G,n,Array.mk [],boot_drawn,toks,os⟩ D)(R:lO s' r.2.1)(F:Fr n U s s'):
  vM s' ⟨B8++(nw++G),n',Array.mk [],boot_drawn,Ax,os⟩ (H++D):=by
 rw[bg]at hG
 refine⟨⟨λa o h=>?_,R.c.trans (congrArg (·.2.2.2.1) e),R.d.trans (congrArg (·.2.2.2.2.1) e),R.g.trans (congrArg (·.2.2.2.2.2.1) e),R.e.trans (congrArg (·.2.2.2.2.2.2.1) e),R.f.trans (congrArg (·.2.2.2.2.2.2.2.1) e)⟩,λx hx=>?_⟩
 .rw[<-aK]at h
  refine(Bs h).elim (λh=>R.b a o (tS (congrArg (·.2.1) e) h)) λh=>?_
  have z:=aJ.mp hG.1 _ (vY h);rw[bg,mq]at z
  have l:=A4 z.1;exact(F.c a l.1 l.2).trans (K.b.b a o ((wB z.2).trans h))
 .refine(aS.mp hx).elim (λhx=>?_) λhx=>?_
  .exact(lF.mp (yu (congrArg (·.2.2.1) e) x hx)).elim λo h=>⟨o,R.b _ _ h.1,h.2⟩
  .have l:=A4 (aJ.mp hG.2 _ hx);rw[F.c _ l.1 l.2];exact K.c x hx
theorem Mz{lo k:Nat}:Za lo k++PW.main.body.drop (lo+k)=PW.main.body.drop lo:=by unfold Za;rw[<-List.drop_drop];exact List.take_append_drop k _
theorem Qw{w:World}{U:S5}{N n toks:Nat}{os:OsState}{pos:Pos}{K:Kn}{l:aaj}{r:Flow×SP×Code×Pos}{s:Shared}
  (e:ND w U N K n toks os l pos=some r)(R:lO s ⟨K,n,Array.mk [],boot_drawn,toks,os⟩):Th treeTable PW w 11 (some (.ref 6)) n U 1 N s ⟨(execs l xq).wrap doneF deadEnd id id,cT,pos,bT⟩ r:=by
 unfold ND at e
 rw[<-FE,<-Sb,<-tO,<-zf,<-K4]at e
 exact Qs N e R (aH _)
theorem piece{w:World}{P:Shared->Prop}{U:S5}{N lo k n n' toks Ax:Nat}{os:OsState}{pos NG:Pos}{GG B8 nw G:Kn}{D H:S6}{s:Shared}
  (Bi:(ND w U N (GG++G) n toks os (Za lo k) pos).map (Dy (B8++nw) H)=some (.next,(B8++nw).map (λp=>some p.2),H.map (λp=>some p.2),n',Array.mk [],boot_drawn,Ax,os,cT,NG))
  (hG:(CI n U GG G&&CJ n U D)=true)
  (K:vM s ⟨GG++G,n,Array.mk [],boot_drawn,toks,os⟩ D)
  (next:∀s',vM s' ⟨B8++(nw++G),n',Array.mk [],boot_drawn,Ax,os⟩ (H++D)->IU w P s' (restOf (PW.main.body.drop (lo+k)) xq cT NG bT)):
  IU w P s (restOf (PW.main.body.drop lo) xq cT pos bT):=
 (aC.mp Bi).elim λr h=>(Qw h.1 K.b).elim λs' q=>(next s' (EI h.2 hG K q.2.1 q.2.2.1)).elim λN2 h2=>h2.elim λr2 h3=>⟨N+N2,r2,Mz (lo:=lo) (k:=k)▸piece_app (q.1.trans (congrArg some (HB h.2))) h3.1,h3.2⟩

variable{K:Kn}
section
variable (P:Params)
noncomputable def kZ(x:Str)(t:Nat)(v:Value):DictEntry:= {hash:=PyData.keyHash P x,key:=.str x t,val:=v}
noncomputable def qT(x:Int)(t:Nat)(v:Value):DictEntry:= {hash:=x,key:=.int x t,val:=v}
noncomputable def iU(es:aae)(n:Nat):Obj:= {cls:=.type "dict",data:=.dict es.toArray n}
noncomputable def iF(vs:S9)(n:Nat):Obj:= {cls:=.type "tuple",data:=.seq vs.toArray n}
noncomputable def Yi(c:String)(vs:S9):Obj:= {cls:=.type c,data:=.fields vs.toArray}
noncomputable def qV(name:Str)(bases mro:S9)(ns:Nat)(wd:S9)(slots:List (V9)):Obj:= {cls:=.type "type",data:=.cls {name,bases,mro,ns,qualname:=name,subclasses:=wd},slots:=slots.toArray}
def fG(i:Nat):Stmt:=(PW.main.body.drop i).headD (.Pass p0)
def d8(i j:Nat):Stmt:=match fG i with
 |.ClassDef _ _ _ body .. =>(body.drop j).headD (.Pass p0)
 |s=>s
noncomputable def Oo(st:Stmt)(qual:Str)(Uv hC code:Value):FuncData:=match st with
 |.FunctionDef name args body _ _ _ scope _ _ _=> {name,qualname:=qual,params:=args,body:=.stmts body,scope,globals:=3,closure:=[],defaults:=Uv,kwdefaults:=.none,pyModule:=hC,code}
 |_=>default
def I6(st:Stmt)(qual:Str)(Uv hC code:Value):Obj:= {cls:=.type "function",data:=.func (Oo st qual Uv hC code)}
noncomputable def Wl:Obj:= {cls:=.type "code",data:=.fields #[.str "<module>" 182,.str "<module>" 183,.str "/claim/cut.py" 184,.int 1 0,.int 0 0,.int 0 0,.int 0 0,.int 0 0,.ref 11,.bool false,.int 181 0,.ref 12,.none,.none,.none,.none,.int 185 0,.int 1 0,.str "/claim/cut.py" 186]}
def Jk:Obj:= {cls:=.none,data:=.dict #[kZ P "type.__subclasses__.Exception.0" 559 (.int 73 0),kZ P "type.__subclasses__.Exception.n" 560 (.int 1 0)] 2}
theorem Kq(w:World):∃b,w.withFollow "special-get-raises" b=w:=⟨_,World.withFollow_self w _⟩
def aT(x:Str)(t a:Nat):DictEntry:=kZ P x t (.ref a)
def oj(s:Str)(a b x y:Nat):Nat×Obj:=(a,qV s [.type "object"] [.ref a,.type "object"] b [] [none,none,some (.str s x),some (.str s y),some (.builtin "object.__new__"),some (.bool true)])
def vg(x a:Nat):Obj:=Yi "getset_descriptor" [.str "__dict__" x,.ref a,.builtin "function.__dict__",.builtin "function.__dict__#set"]
def ve(x a:Nat):Obj:=Yi "getset_descriptor" [.str "__weakref__" x,.ref a,.builtin "ExceptionGroup.__weakref__",.none]
def qx(a:Nat)(v:Value)(c:Nat)(d:Int)(r:aae):aae:=kZ P "__module__" a v::kZ P "__firstlineno__" c (.int d (c-1))::r
def kJ(i j:Nat)(q:Str)(m:Value)(c:Nat):Obj:=I6 (d8 i j) q .none m (.ref c)
def cX(i:Nat)(q:Str)(m:Value)(c:Nat):Obj:=I6 (fG i) q .none m (.ref c)
noncomputable def eN(x:Str)(t:Nat)(v:Int):Str×Nat×Value:=(x,t,.int v (t-1))
noncomputable def cP(x:Str)(t a:Nat):Str×Nat×Value:=(x,t,.ref a)
noncomputable def gN:Value:=.str "kindkeep.nodes" 194
noncomputable def Ft:Value:=.str "kindkeep.diags" 528
noncomputable def uH:Value:=.str "kindkeep.types" 762
noncomputable def M9:Value:=.str "kindkeep.flow" 1128
noncomputable def Ya:Value:=.str "kindkeep.typeops" 1264
noncomputable def Xj:Value:=.str "kindkeep.cslots" 1280
noncomputable def Fq:Value:=.str "kindkeep.cfuncs" 1352
noncomputable def Xi:Value:=.str "kindkeep.hosts" 1486
noncomputable def lu:Value:=.str "kindkeep.ccore" 1678
noncomputable def Xh:Value:=.str "kindkeep.cstmt" 2506
noncomputable def mO:Value:=.str "law_rh0144_01" 2570
noncomputable def nmE(x:Str)(t:Nat)(v:Value):Str×Nat×Value:=(x,t,v)
def xn:aan:=[cP "_wall" 193 21,eN "K_NAME" 197 8,eN "K_FUNC" 199 27,eN "K_RETURN" 201 52,eN "K_CLASS" 203 61,eN "F_EXPRBODY" 205 8,eN "F_DECL" 207 16,eN "F_GET" 209 64,eN "F_SET" 211 128,eN "F_CTOR" 213 256,cP "NODE_WORDS" 481 22,cP "Node" 519 44,cP "has" 527 55,eN "U_ANY" 531 1,cP "KeepError" 562 73,cP "TooDeep" 591 94,cP "HostFault" 618 114,cP "Diag" 660 140,cP "Diags" 707 174,cP "Notes" 761 216,eN "Y_KEY" 765 1,eN "Y_BOOL" 767 2,eN "Y_STR" 769 3,eN "Y_NUM" 771 4,eN "Y_ENUM" 773 5,eN "Y_UNION" 775 6,eN "Y_INTER" 777 7,eN "Y_OBJ" 779 8,eN "Y_REF" 781 9,eN "Y_PARAM" 783 10]
def xk:aan:=[eN "Y_ARRAY" 785 11,eN "Y_TUPLE" 787 12,eN "Y_SIG" 789 13,eN "Y_KEYOF" 791 14,eN "Y_INDEX" 793 15,eN "Y_COND" 795 16,eN "Y_TPL" 797 18,eN "ANY" 799 0,eN "UNKNOWN" 801 1,eN "NEVER" 803 2,eN "VOID" 805 3,eN "UNDEF" 807 4,eN "NULLT" 809 5,eN "STRING" 811 6,eN "NUMBER" 813 7,eN "FALSE_T" 815 8,eN "TRUE_T" 817 9,eN "OBJECTT" 819 10,eN "EMPTY" 821 11,eN "BOOLEAN" 823 12,eN "ERR" 825 13,eN "FRESH_F" 827 14,eN "FRESH_T" 829 15,eN "P_READONLY" 831 2,eN "FAM_OTHER" 833 0,eN "FAM_STR" 835 1,eN "FAM_NUM" 837 2,eN "FAM_BOOL" 839 3,eN "FAM_NULL" 841 4,eN "FAM_UNDEF" 843 5]
def xi:aan:=[eN "FAM_VOID" 845 6,eN "FAM_OBJ" 847 7,eN "MAX_UNION" 849 400,cP "FIRST_ROWS" 871 243,cP "LITERAL_ROWS" 872 244,cP "MARKED_ROWS" 873 245,cP "OBJECT_ROWS" 874 246,cP "KEY_FAMILIES" 881 247,cP "TypeTable" 936 278,cP "kind_of" 944 289,cP "member_type" 959 297,cP "array_type" 969 305,cP "sig_type" 982 314,cP "parts_of" 991 321,cP "whole_of_row" 999 328,cP "regular_twin" 1008 335,cP "join_bools" 1015 342,cP "stays_beside" 1024 349,cP "top_of" 1032 356,cP "union" 1038 361,cP "is_literal" 1046 368,cP "is_unit" 1054 375,cP "is_fresh" 1063 382,cP "regular_one" 1071 389,cP "regular" 1077 394,cP "enum_type" 1083 399,cP "whole_of" 1093 406,cP "base_of_literal" 1099 411,cP "common_family" 1105 416,cP "meet_family" 1116 423]
def xf:aan:=[cP "family" 1127 430,eN "L_DEAD" 1131 0,eN "L_START" 1133 1,eN "L_CALL" 1135 7,eN "L_CASE" 1137 8,cP "Graph" 1189 454,cP "Stops" 1238 489,cP "blocked" 1250 500,cP "reaches" 1263 507,cP "widen_one" 1273 514,cP "widen_literal" 1279 519,eN "MOST_WRITTEN" 1283 60,cP "unfresh" 1291 526,cP "stored_kind" 1301 533,cP "stored_row" 1307 538,cP "literal_in" 1318 545,cP "literal_met" 1328 552,cP "literal_bound" 1339 559,cP "slot_kind" 1351 566,cP "Frame" 1386 583,cP "returns_in" 1397 594,cP "end_reached" 1406 601,cP "told_returns" 1418 608,cP "settled_return" 1427 615,cP "block_return" 1438 622,cP "hinted_return" 1448 629,cP "missing_return" 1459 636,cP "check_body" 1470 643,cP "run_body" 1476 648,cP "class_did" 1485 655]
def xc:aan:=[eN "MOST_ROUNDS" 1489 200,eN "MOST_SHAPES" 1491 40,cP "Thin" 1677 798,eN "MOST_DEEP" 1681 50,cP "StmtRule" 1710 819,cP "Guard" 1762 854,cP "Roads" 1801 882,cP "Judge" 1920 966,cP "PlainJudge" 1976 1008,cP "plain_part" 1985 1017,cP "ccore_plain_fits" 1998 1024,cP "Patterns" 2049 1055,cP "Giver" 2079 1076,cP "Places" 2117 1104,cP "FuncRule" 2147 1125,cP "Sheet" 2447 1307,cP "expr_kind" 2457 1318,cP "check_stmt" 2467 1325,cP "stays_told" 2473 1330,cP "take_back" 2479 1335,cP "given_kind" 2490 1342,cP "want_fit" 2505 1349,cP "NothingRule" 2532 1366,cP "blank_return" 2541 1375,cP "ReturnRule" 2569 1392,eN "_law_k_block" 2573 59,eN "_law_k_num" 2575 1,eN "_law_k_throw" 2577 56,eN "_law_k_exprst" 2579 43,eN "_law_k_list" 2581 71]
def xb:aan:=[eN "_law_f_arrow" 2583 4,eN "_law_k_break" 2585 53,eN "_law_k_call" 2587 18,eN "_law_k_true" 2589 4,eN "_law_k_false" 2591 5,eN "_law_k_while" 2593 45,eN "_law_k_if" 2595 44,eN "_law_l_join" 2597 2,eN "_law_l_loop" 2599 3,eN "_law_l_true" 2601 5,eN "_law_l_false" 2603 6,eN "_law_f_method" 2605 32,eN "_law_k_tkey" 2607 80,cP "_law_wholes" 2613 1401,cP "_law_node" 2625 1409,cP "_law_number" 2631 1414,cP "_law_take" 2640 1421,cP "_law_values" 2650 1428,cP "_law_seen" 2661 1435,cP "_law_hints" 2670 1442,cP "_law_written" 2678 1449,cP "_law_block" 2691 1456,cP "_law_stmt" 2711 1463,cP "_law_join" 2717 1468,cP "_law_flow" 2732 1475,cP "_law_out" 2743 1482,cP "_law_settled" 2749 1487,cP "_law_goes" 2757 1494,cP "_law_faults" 2774 1501,cP "_law_sheet" 2780 1506]
def w8:aan:=[cP "law" 2786 1511]
def ZL:aan:=xn++(xk++(xi++(xf++(xc++(xb++w8)))))
noncomputable def di(x:Int)(t:Nat):Int×Nat:=(x,t)
def Fu:aav:=[di 1 20,di 15 33,di 24 54,di 28 61,di 33 82,di 38 102,di 43 122,di 53 150,di 64 184,di 129 253,di 155 288,di 157 296,di 163 304,di 165 313,di 167 320,di 174 327,di 183 334,di 188 341,di 192 348,di 196 355,di 201 360,di 218 367,di 220 374,di 222 381,di 225 388,di 229 393,di 233 398,di 238 405,di 246 410,di 248 415,di 252 422,di 261 429,di 283 436,di 307 464,di 318 499,di 326 506,di 341 513,di 345 518,di 349 525,di 351 532]
def Fs:aav:=[di 358 537,di 375 544,di 387 551,di 392 558,di 400 565,di 411 572,di 418 593,di 430 600,di 437 607,di 446 614,di 450 621,di 459 628,di 468 635,di 481 642,di 491 647,di 505 654,di 513 661,di 577 808,di 581 829,di 591 864,di 598 892,di 629 976,di 642 1016,di 650 1023,di 663 1030,di 676 1065,di 680 1086,di 687 1114,di 692 1135,di 828 1317,di 843 1324,di 859 1329,di 863 1334,di 882 1341,di 895 1348,di 906 1355,di 910 1374,di 913 1381,di 951 1400,di 953 1408]
def Fn:aav:=[di 955 1413,di 963 1420,di 967 1427,di 973 1434,di 979 1441,di 983 1448,di 987 1455,di 992 1462,di 1019 1467,di 1024 1474,di 1053 1481,di 1072 1486,di 1083 1493,di 1089 1500,di 1113 1505,di 1132 1510]
def Rg:aav:=Fu++(Fs++Fn)
noncomputable def T8:Str:="kindkeep.nodes"
noncomputable def BY:Str:="kindkeep.diags"
noncomputable def Eb:Str:="kindkeep.types"
noncomputable def T7:Str:="kindkeep.flow"
noncomputable def T6:Str:="kindkeep.cfuncs"
noncomputable def sE:Str:="kindkeep.ccore"
noncomputable def Nz:Str:="kindkeep.cstmt"
noncomputable def Jj:Str:="law_rh0144_01"
section
def Vy(v:Str)(t k:Nat):aae:=
 kZ P "__name__" 165 (.str v t)::kZ P "__doc__" 166 .none::kZ P "__package__" 167 .none::kZ P "__loader__" 168 (.builtin "__main__.__loader__#opaque")::kZ P "__spec__" 169 .none::aT P "__annotations__" 170 6::
 aT P "__builtins__" 171 4::kZ P "__file__" 173 (.str "/claim/cut.py" 172)::kZ P "__cached__" 174 .none::(ZL.take k).map λe=>kZ P e.1 e.2.1 e.2.2
def Jr(v:Str)(t k:Nat):Obj:=iU (Vy P v t k) (9+k)
def Wk(k:Nat):Obj:= {cls:=.none,data:=.fields ((Rg.take k).flatMap λe=>[.int e.1 0,.int 0 0,.ref e.2]).toArray}
def jA(v:Str)(t k j:Nat)(st:Bool)(ex:Kn):Kn:=(3,Jr P v t k)::(12,Wk j)::(13,Wl)::(4,boot_o_4 P)::(0,boot_o_0 P)::(2,match st with|true=>Jk P|false=>boot_o_2 P)::ex
def dI(w:World)(os:OsState)(P:Shared->Prop)(C G:Params->Kn)(D:S6)(n t i:Nat)(p:Pos):Prop:=∀s,vM s ⟨C w.params++G w.params,n,Array.mk [],boot_drawn,t,os⟩ D->IU w P s (restOf (PW.main.body.drop i) xq cT p bT)
variable{w:World}{os:OsState}{Z:Shared->Prop}
theorem pc{C F G C':Params->Kn}{D:S6}{n n' t t' i:Nat}{p p':Pos}(U:S5)(N k:Nat)(H:S6)(x:dI w os Z C' (λP=>F P++G P) (H++D) n' t' (i+k) p')
  (e:(ND w U N (C w.params++G w.params) n t os (Za i k) p).map (Dy (C' w.params++F w.params) H)=some (.next,(C' w.params++F w.params).map (λp=>some p.2),H.map (λp=>some p.2),n',Array.mk [],boot_drawn,t',os,cT,p'):=by kernel_rfl)
  (hG:(CI n U (C w.params) (G w.params)&&CJ n U D)=true:=by kernel_rfl):dI w os Z C G D n t i p:=λ_ K=>piece e hG K x
noncomputable def G0:Kn:=[(1,boot_o_1 P),(5,boot_o_5 P),(6,boot_o_6 P),(7,boot_o_7 P),(8,boot_o_8 P),(9,boot_o_9 P),(10,boot_o_10 P)]
noncomputable def D0:S6:=[]
def C0:Kn:=jA P "__main__" 164 0 0 false []
noncomputable def F1(P:Params):Kn:=[]
noncomputable def H1:S6:=[]
def C1:Kn:=jA P T8 194 10 1 false []
def G1:Kn:=F1 P++G0 P
def D1:S6:=H1++D0
theorem q1(x:dI w os Z C1 G1 D1 22 214 11 ⟨13,0,13,6⟩):dI w os Z C0 G0 D0 15 187 0 ⟨0,0,0,0⟩:=pc [3,12] 121 11 H1 x
def C2:Kn:=jA P T8 194 11 1 false []
def G2:Kn:=F1 P++G1 P
def D2:S6:=H1++D1
theorem q2(x:dI w os Z C2 G2 D2 28 482 12 ⟨14,0,14,10⟩):dI w os Z C1 G1 D1 22 214 11 ⟨13,0,13,6⟩:=pc [3] 1636 1 H1 x (by obtain⟨b,e⟩:=Kq w;rw[<-e];clear e;induction b<;>kernel_rfl)
def F3:Kn:=[oj "Node" 44 43 482 490,
 (43,iU (qx P 489 gN 493 15 [aT P "__init__" 505 41,aT P "__static_attributes__" 512 42,aT P "__dict__" 514 45,aT P "__weakref__" 516 46,kZ P "__doc__" 517 .none]) 4),
 (41,kJ 12 0 "Node.__init__" gN 40),
 (45,vg 513 44),
 (46,ve 515 44)]
noncomputable def H3:S6:=[(40,"Node.__init__")]
def C3:Kn:=jA P T8 194 12 2 false []
def G3:Kn:=F3 P++G2 P
def D3:S6:=H3++D2
theorem q3(x:dI w os Z C3 G3 D3 49 520 13 ⟨15,0,23,20⟩):dI w os Z C2 G2 D2 28 482 12 ⟨14,0,14,10⟩:=pc [3,12] 233 1 H3 x
def F4(P:Params):Kn:=[(55,cX 13 "has" gN 54)]
noncomputable def H4:S6:=[(54,"has")]
def C4:Kn:=jA P BY 528 14 3 false []
def G4:Kn:=F4 P++G3 P
def D4:S6:=H4++D3
theorem q4(x:dI w os Z C4 G4 D4 56 532 16 ⟨27,0,27,5⟩):dI w os Z C3 G3 D3 49 520 13 ⟨15,0,23,20⟩:=pc [3,12] 50 3 H4 x
def F5:Kn:=[(72,iU (qx P 539 Ft 543 28 [aT P "__init__" 552 70,aT P "__static_attributes__" 555 71,aT P "__weakref__" 557 74,kZ P "__doc__" 558 (.none)]) 3)]
def C5:Kn:=jA P BY 528 15 4 true [(73,qV "KeepError" [.type "Exception"] [.ref 73,.type "Exception",.type "BaseException",.type "object"] 72 [] [some (.ref 56),none,some (.str "KeepError" 532),some (.str "KeepError" 540),some (.builtin "Exception.__new__"),some (.bool true)])]
def G5:Kn:=F5 P++G4 P
def D5:S6:=H1++D4
theorem q5(x:dI w os Z C5 G5 D5 77 563 17 ⟨28,0,32,24⟩):dI w os Z C4 G4 D4 56 532 16 ⟨27,0,27,5⟩:=pc [3,2,12] 233 1 H1 x
def F6:Kn:=[(94,qV "TooDeep" [.ref 73] [.ref 94,.ref 73,.type "Exception",.type "BaseException",.type "object"] 93 [] [some (.ref 77),none,some (.str "TooDeep" 563),some (.str "TooDeep" 571),some (.builtin "Exception.__new__"),some (.bool true)]),
 (93,iU (qx P 570 Ft 574 33 [aT P "__init__" 585 91,aT P "__static_attributes__" 588 92,kZ P "__doc__" 589 (.none)]) 2)]
def C6:Kn:=jA P BY 528 16 5 true [(73,qV "KeepError" [.type "Exception"] [.ref 73,.type "Exception",.type "BaseException",.type "object"] 72 [.ref 94] [some (.ref 56),none,some (.str "KeepError" 532),some (.str "KeepError" 540),some (.builtin "Exception.__new__"),some (.bool true)])]
def G6:Kn:=F6 P++G5 P
def D6:S6:=H1++D5
theorem q6(x:dI w os Z C6 G6 D6 97 592 18 ⟨33,0,37,24⟩):dI w os Z C5 G5 D5 77 563 17 ⟨28,0,32,24⟩:=pc [3,73,12] 252 1 H1 x
def F7:Kn:=[(114,qV "HostFault" [.ref 73] [.ref 114,.ref 73,.type "Exception",.type "BaseException",.type "object"] 113 [] [some (.ref 97),none,some (.str "HostFault" 592),some (.str "HostFault" 600),some (.builtin "Exception.__new__"),some (.bool true)]),
 (113,iU (qx P 599 Ft 603 38 [aT P "__init__" 612 111,aT P "__static_attributes__" 615 112,kZ P "__doc__" 616 (.none)]) 2),
 (73,qV "KeepError" [.type "Exception"] [.ref 73,.type "Exception",.type "BaseException",.type "object"] 72 [.ref 94,.ref 114] [some (.ref 56),none,some (.str "KeepError" 532),some (.str "KeepError" 540),some (.builtin "Exception.__new__"),some (.bool true)])]
def C7:Kn:=jA P BY 528 17 6 true []
def G7:Kn:=F7 P++G6 P
def D7:S6:=H1++D6
theorem q7(x:dI w os Z C7 G7 D7 117 619 19 ⟨38,0,42,24⟩):dI w os Z C6 G6 D6 97 592 18 ⟨33,0,37,24⟩:=pc [3,73,12] 250 1 H1 x
def F8:Kn:=[oj "Diag" 140 139 619 627,
 (139,iU (qx P 626 Ft 630 43 [aT P "__init__" 641 130,aT P "row" 648 137,aT P "__static_attributes__" 653 138,aT P "__dict__" 655 141,aT P "__weakref__" 657 142,kZ P "__doc__" 658 .none]) 4),
 (130,kJ 19 0 "Diag.__init__" Ft 129),
 (141,vg 654 140),
 (142,ve 656 140)]
noncomputable def H8:S6:=[(129,"Diag.__init__")]
def C8:Kn:=jA P BY 528 18 7 true []
def G8:Kn:=F8 P++G7 P
def D8:S6:=H8++D7
theorem q8(x:dI w os Z C8 G8 D8 145 661 20 ⟨43,0,52,48⟩):dI w os Z C7 G7 D7 117 619 19 ⟨38,0,42,24⟩:=pc [3,12] 261 1 H8 x
def F9:Kn:=[oj "Diags" 174 173 661 669,
 (173,iU (qx P 668 Ft 672 53 [aT P "__init__" 681 159,aT P "put" 691 166,aT P "numbers" 697 171,aT P "__static_attributes__" 700 172,aT P "__dict__" 702 175,aT P "__weakref__" 704 176,kZ P "__doc__" 705 .none]) 4),
 (159,I6 (d8 20 0) "Diags.__init__" (.ref 152) Ft (.ref 158)),
 (152,iF [.str "" 673] 0),
 (166,kJ 20 1 "Diags.put" Ft 165),
 (175,vg 701 174),
 (176,ve 703 174)]
noncomputable def H9:S6:=[(158,"Diags.__init__"),(165,"Diags.put")]
def C9:Kn:=jA P BY 528 19 8 true []
def G9:Kn:=F9 P++G8 P
def D9:S6:=H9++D8
theorem q9(x:dI w os Z C9 G9 D9 179 708 21 ⟨53,0,63,50⟩):dI w os Z C8 G8 D8 145 661 20 ⟨43,0,52,48⟩:=pc [3,12] 289 1 H9 x
def F10:Kn:=[oj "Notes" 216 215 708 716,
 (215,iU (qx P 715 Ft 719 64 [aT P "__init__" 726 192,aT P "put" 735 199,aT P "codes" 745 206,aT P "clean" 752 213,aT P "__static_attributes__" 754 214,aT P "__dict__" 756 217,aT P "__weakref__" 758 218,kZ P "__doc__" 759 .none]) 4),
 (192,kJ 21 0 "Notes.__init__" Ft 191),
 (199,kJ 21 1 "Notes.put" Ft 198),
 (217,vg 755 216),
 (218,ve 757 216)]
noncomputable def H10:S6:=[(191,"Notes.__init__"),(198,"Notes.put")]
def C10:Kn:=jA P BY 528 20 9 true []
def pw:Kn:=F10 P++G9 P
def t5:S6:=H10++D9
theorem q10(x:dI w os Z C10 pw t5 221 762 22 ⟨64,0,79,16⟩):dI w os Z C9 G9 D9 179 708 21 ⟨53,0,63,50⟩:=pc [3,12] 321 1 H10 x
def C11:Kn:=jA P Eb 762 52 9 true []
def pu:Kn:=F1 P++pw P
def t4:S6:=H1++t5
theorem q11(x:dI w os Z C11 pu t4 221 828 55 ⟨112,0,112,7⟩):dI w os Z C10 pw t5 221 762 22 ⟨64,0,79,16⟩:=pc [3] 299 33 H1 x
def F12(P:Params):Kn:=[(243,iF [.ref 221,.ref 222,.ref 223,.ref 224,.ref 225,.ref 226,.ref 227,.ref 228,.ref 229,.ref 230,.ref 231,.ref 237,.ref 239,.ref 240,.ref 241,.ref 242] 0),
 (221,iF [.int 1 764,.str "any" 850] 0),
 (222,iF [.int 1 764,.str "unknown" 851] 0),
 (223,iF [.int 1 764,.str "never" 852] 0),
 (224,iF [.int 1 764,.str "void" 853] 0),
 (225,iF [.int 1 764,.str "undefined" 854] 0),
 (226,iF [.int 1 764,.str "null" 855] 0),
 (227,iF [.int 1 764,.str "string" 856] 0),
 (228,iF [.int 1 764,.str "number" 857] 0),
 (229,iF [.int 2 766,.int 0 858,.int 0 859] 0),
 (230,iF [.int 2 766,.int 1 860,.int 0 861] 0),
 (231,iF [.int 1 764,.str "object" 862] 0),
 (237,iF [.int 8 778,.ref 232,.ref 233,.ref 234,.ref 235,.ref 236,.int 0 863] 0),
 (232,iF [] 0),
 (233,iF [] 0),
 (234,iF [] 0),
 (235,iF [] 0),
 (236,iF [] 0),
 (239,iF [.int 6 774,.ref 238] 0),
 (238,iF [.int 8 864,.int 9 865] 0),
 (240,iF [.int 1 764,.str "error" 866] 0),
 (241,iF [.int 2 766,.int 0 867,.int 1 868] 0),
 (242,iF [.int 2 766,.int 1 869,.int 1 870] 0),
 (244,iF [.int 2 766,.int 3 768,.int 4 770,.int 5 772] 0),
 (245,iF [.int 2 766,.int 3 768,.int 4 770,.int 5 772,.int 8 778] 0),
 (246,iF [.int 8 778,.int 9 780,.int 11 784,.int 12 786,.int 13 788] 0)]
def C12:Kn:=jA P Eb 762 67 9 true []
def pt:Kn:=F12 P++pu P
def tJ:S6:=H1++t4
theorem q12(x:dI w os Z C12 pt tJ 247 875 70 ⟨127,0,127,11⟩):dI w os Z C11 pu t4 221 828 55 ⟨112,0,112,7⟩:=pc [3] 266 15 H1 x
def F13(P:Params):Kn:=[(247,iU [qT 3 804 (.int 6 844),qT 4 806 (.int 5 842),qT 5 808 (.int 4 840),qT 6 810 (.int 1 834),qT 7 812 (.int 2 836),qT 10 818 (.int 7 846)] 6)]
def C13:Kn:=jA P Eb 762 68 9 true []
def po:Kn:=F13 P++pt P
def tI:S6:=H1++tJ
theorem q13(x:dI w os Z C13 po tI 248 882 71 ⟨128,0,128,12⟩):dI w os Z C12 pt tJ 247 875 70 ⟨127,0,127,11⟩:=pc [3] 102 1 H1 x (by obtain⟨b,e⟩:=Kq w;rw[<-e];clear e;induction b<;>kernel_rfl)
def F14:Kn:=[oj "TypeTable" 278 277 882 890,
 (277,iU (qx P 889 uH 893 129 [aT P "__init__" 901 261,aT P "row" 909 268,aT P "put" 918 275,aT P "__static_attributes__" 929 276,aT P "__dict__" 931 279,aT P "__weakref__" 933 280,kZ P "__doc__" 934 .none]) 4),
 (261,kJ 71 0 "TypeTable.__init__" uH 260),
 (275,kJ 71 2 "TypeTable.put" uH 274),
 (279,vg 930 278),
 (280,ve 932 278)]
noncomputable def H14:S6:=[(260,"TypeTable.__init__"),(274,"TypeTable.put")]
def C14:Kn:=jA P Eb 762 69 10 true []
def pk:Kn:=F14 P++po P
def tA:S6:=H14++tI
theorem q14(x:dI w os Z C14 pk tA 283 937 72 ⟨129,0,154,16⟩):dI w os Z C13 po tI 248 882 71 ⟨128,0,128,12⟩:=pc [3,12] 298 1 H14 x
def F15(P:Params):Kn:=[(289,cX 72 "kind_of" uH 288),
 (314,I6 (fG 75) "sig_type" (.ref 307) uH (.ref 313)),
 (307,iF [.ref 306,.int 0 970] 0),
 (306,iF [] 0),
 (321,cX 76 "parts_of" uH 320),
 (328,cX 77 "whole_of_row" uH 327),
 (335,cX 78 "regular_twin" uH 334),
 (342,cX 79 "join_bools" uH 341),
 (349,cX 80 "stays_beside" uH 348)]
noncomputable def H15:S6:=[(288,"kind_of"),(313,"sig_type"),(320,"parts_of"),(327,"whole_of_row"),(334,"regular_twin"),(341,"join_bools"),(348,"stays_beside")]
def C15:Kn:=jA P Eb 762 78 19 true []
def pj:Kn:=F15 P++pk P
def tz:S6:=H15++tA
theorem q15(x:dI w os Z C15 pj tz 350 1025 81 ⟨192,0,195,47⟩):dI w os Z C14 pk tA 283 937 72 ⟨129,0,154,16⟩:=pc [3,12] 293 9 H15 x
def F16(P:Params):Kn:=[(356,cX 81 "top_of" uH 355),
 (361,cX 82 "union" uH 360),
 (368,cX 83 "is_literal" uH 367),
 (375,cX 84 "is_unit" uH 374),
 (382,cX 85 "is_fresh" uH 381),
 (389,cX 86 "regular_one" uH 388),
 (394,cX 87 "regular" uH 393),
 (406,cX 89 "whole_of" uH 405)]
noncomputable def H16:S6:=[(355,"top_of"),(360,"union"),(367,"is_literal"),(374,"is_unit"),(381,"is_fresh"),(388,"regular_one"),(393,"regular"),(405,"whole_of")]
def C16:Kn:=jA P Eb 762 88 29 true []
def pi:Kn:=F16 P++pj P
def tx:S6:=H16++tz
theorem q16(x:dI w os Z C16 pi tx 412 1100 91 ⟨246,0,247,73⟩):dI w os Z C15 pj tz 350 1025 81 ⟨192,0,195,47⟩:=pc [3,12] 289 10 H16 x
def F17(P:Params):Kn:=[(430,cX 93 "family" uH 429)]
noncomputable def H17:S6:=[(429,"family")]
def C17:Kn:=jA P T7 1128 95 32 true []
def ph:Kn:=F17 P++pi P
def tt:S6:=H17++tx
theorem q17(x:dI w os Z C17 ph tt 431 1138 99 ⟨282,0,282,6⟩):dI w os Z C16 pi tx 412 1100 91 ⟨246,0,247,73⟩:=pc [3,12] 139 8 H17 x
def F18:Kn:=[oj "Graph" 454 453 1138 1146,
 (453,iU (qx P 1145 M9 1149 283 [aT P "__init__" 1156 444,aT P "make" 1167 451,aT P "__static_attributes__" 1182 452,aT P "__dict__" 1184 455,aT P "__weakref__" 1186 456,kZ P "__doc__" 1187 .none]) 4),
 (444,kJ 99 0 "Graph.__init__" M9 443),
 (451,kJ 99 1 "Graph.make" M9 450),
 (455,vg 1183 454),
 (456,ve 1185 454)]
noncomputable def H18:S6:=[(443,"Graph.__init__"),(450,"Graph.make")]
def C18:Kn:=jA P T7 1128 96 33 true []
def pd:Kn:=F18 P++ph P
def tq:S6:=H18++tt
theorem q18(x:dI w os Z C18 pd tq 459 1190 100 ⟨283,0,306,34⟩):dI w os Z C17 ph tt 431 1138 99 ⟨282,0,282,6⟩:=pc [3,12] 271 1 H18 x
def F19:Kn:=[oj "Stops" 489 488 1190 1198,
 (488,iU (qx P 1197 M9 1201 307 [aT P "__init__" 1210 472,aT P "ends" 1218 479,aT P "empty" 1228 486,aT P "__static_attributes__" 1231 487,aT P "__dict__" 1233 490,aT P "__weakref__" 1235 491,kZ P "__doc__" 1236 .none]) 4),
 (472,kJ 100 0 "Stops.__init__" M9 471),
 (479,kJ 100 1 "Stops.ends" M9 478),
 (490,vg 1232 489),
 (491,ve 1234 489)]
noncomputable def H19:S6:=[(471,"Stops.__init__"),(478,"Stops.ends")]
def C19:Kn:=jA P T7 1128 97 34 true []
def o0:Kn:=F19 P++pd P
def to:S6:=H19++tq
theorem q19(x:dI w os Z C19 o0 to 494 1239 101 ⟨307,0,317,49⟩):dI w os Z C18 pd tq 459 1190 100 ⟨283,0,306,34⟩:=pc [3,12] 292 1 H19 x
def F20(P:Params):Kn:=[(500,cX 101 "blocked" M9 499),
 (507,cX 102 "reaches" M9 506),
 (514,cX 104 "widen_one" Ya 513),
 (519,cX 105 "widen_literal" Ya 518),
 (526,cX 108 "unfresh" Xj 525),
 (533,cX 109 "stored_kind" Xj 532),
 (538,cX 110 "stored_row" Xj 537),
 (545,cX 111 "literal_in" Xj 544)]
noncomputable def H20:S6:=[(499,"blocked"),(506,"reaches"),(513,"widen_one"),(518,"widen_literal"),(525,"unfresh"),(532,"stored_kind"),(537,"stored_row"),(544,"literal_in")]
def C20:Kn:=jA P "kindkeep.cslots" 1280 106 42 true []
def oT:Kn:=F20 P++o0 P
def tm:S6:=H20++to
theorem q20(x:dI w os Z C20 oT tm 546 1319 112 ⟨375,0,386,16⟩):dI w os Z C19 o0 to 494 1239 101 ⟨307,0,317,49⟩:=pc [3,12] 275 11 H20 x
def F21(P:Params):Kn:=[(566,cX 114 "slot_kind" Xj 565)]
noncomputable def H21:S6:=[(565,"slot_kind")]
def C21:Kn:=jA P T6 1352 109 45 true []
def oP:Kn:=F21 P++oT P
def tj:S6:=H21++tm
theorem q21(x:dI w os Z C21 oP tj 567 1354 116 ⟨410,0,410,8⟩):dI w os Z C20 oT tm 546 1319 112 ⟨375,0,386,16⟩:=pc [3,12] 110 4 H21 x
def F22:Kn:=[oj "Frame" 583 582 1354 1362,
 (582,iU (qx P 1361 Fq 1365 411 [aT P "__init__" 1374 580,aT P "__static_attributes__" 1379 581,aT P "__dict__" 1381 584,aT P "__weakref__" 1383 585,kZ P "__doc__" 1384 .none]) 4),
 (580,kJ 116 0 "Frame.__init__" Fq 579),
 (584,vg 1380 583),
 (585,ve 1382 583)]
noncomputable def H22:S6:=[(579,"Frame.__init__")]
def C22:Kn:=jA P T6 1352 110 46 true []
def oI:Kn:=F22 P++oP P
def ti:S6:=H22++tj
theorem q22(x:dI w os Z C22 oI ti 588 1387 117 ⟨411,0,417,23⟩):dI w os Z C21 oP tj 567 1354 116 ⟨410,0,410,8⟩:=pc [3,12] 228 1 H22 x
def F23(P:Params):Kn:=[(594,cX 117 "returns_in" Fq 593),
 (601,cX 118 "end_reached" Fq 600),
 (608,cX 119 "told_returns" Fq 607),
 (615,cX 120 "settled_return" Fq 614),
 (622,cX 121 "block_return" Fq 621),
 (629,cX 122 "hinted_return" Fq 628),
 (636,cX 123 "missing_return" Fq 635),
 (643,cX 124 "check_body" Fq 642),
 (648,cX 125 "run_body" Fq 647)]
noncomputable def H23:S6:=[(593,"returns_in"),(600,"end_reached"),(607,"told_returns"),(614,"settled_return"),(621,"block_return"),(628,"hinted_return"),(635,"missing_return"),(642,"check_body"),(647,"run_body")]
def C23:Kn:=jA P T6 1352 119 55 true []
def oD:Kn:=F23 P++oI P
def th:S6:=H23++ti
theorem q23(x:dI w os Z C23 oD th 649 1477 126 ⟨491,0,504,26⟩):dI w os Z C22 oI ti 588 1387 117 ⟨411,0,417,23⟩:=pc [3,12] 288 9 H23 x
def C24:Kn:=jA P "kindkeep.hosts" 1486 122 56 true []
def oC:Kn:=F1 P++oD P
def td:S6:=H1++th
theorem fo(x:dI w os Z C24 oC td 656 1492 130 ⟨512,0,512,11⟩):dI w os Z C23 oD th 649 1477 126 ⟨491,0,504,26⟩:=pc [3,12] 60 4 H1 x
def F25:Kn:=[oj "Thin" 798 797 1492 1500,
 (797,iU (qx P 1499 Xi 1503 513 [aT P "__init__" 1511 669,aT P "force" 1519 676,aT P "put_deferred" 1527 683,aT P "put_cond" 1536 690,aT P "lay_row" 1545 697,aT P "bound" 1553 704,aT P "shape" 1561 711,aT P "fits" 1570 718,aT P "lies" 1579 725,aT P "infers" 1589 732,aT P "tpl_fits" 1598 739,aT P "shape_fits" 1607 746,aT P "put_in" 1616 753,aT P "own_sig" 1625 760,aT P "forget" 1632 767,aT P "list_prop" 1641 774,aT P "list_index" 1649 781,aT P "elem_met" 1657 788,aT P "error_class" 1664 795,aT P "__static_attributes__" 1670 796,aT P "__dict__" 1672 799,aT P "__weakref__" 1674 800,kZ P "__doc__" 1675 .none]) 4),
 (669,kJ 130 0 "Thin.__init__" Xi 668),
 (676,kJ 130 1 "Thin.force" Xi 675),
 (704,kJ 130 5 "Thin.bound" Xi 703),
 (718,kJ 130 7 "Thin.fits" Xi 717),
 (799,vg 1671 798),
 (800,ve 1673 798)]
noncomputable def H25:S6:=[(668,"Thin.__init__"),(675,"Thin.force"),(703,"Thin.bound"),(717,"Thin.fits")]
def C25:Kn:=jA P "kindkeep.hosts" 1486 123 57 true []
def ot:Kn:=F25 P++oC P
def tc:S6:=H25++td
theorem q25(x:dI w os Z C25 ot tc 803 1678 131 ⟨513,0,574,17⟩):dI w os Z C24 oC td 656 1492 130 ⟨512,0,512,11⟩:=pc [3,12] 813 1 H25 x
def C26:Kn:=jA P sE 1678 124 57 true []
def oo:Kn:=F1 P++ot P
def ta:S6:=H1++tc
theorem q26(x:dI w os Z C26 oo ta 803 1682 133 ⟨576,0,576,9⟩):dI w os Z C25 ot tc 803 1678 131 ⟨513,0,574,17⟩:=pc [3] 20 2 H1 x
def Zh:Kn:=[(818,iU (qx P 1689 lu 1693 577 [aT P "check" 1702 816,aT P "__static_attributes__" 1703 817,aT P "__dict__" 1705 820,aT P "__weakref__" 1707 821,kZ P "__doc__" 1708 .none]) 4),
 (816,kJ 133 0 "StmtRule.check" lu 815),
 (820,vg 1704 819),
 (821,ve 1706 819)]
noncomputable def H27:S6:=[(815,"StmtRule.check")]
def C27:Kn:=jA P sE 1678 125 58 true [oj "StmtRule" 819 818 1682 1690]
def ol:Kn:=Zh P++oo P
def sK:S6:=H27++ta
theorem q27(x:dI w os Z C27 ol sK 824 1711 134 ⟨577,0,580,19⟩):dI w os Z C26 oo ta 803 1682 133 ⟨576,0,576,9⟩:=pc [3,12] 224 1 H27 x
def F28:Kn:=[oj "Guard" 854 853 1711 1719,
 (853,iU (qx P 1718 lu 1722 581 [aT P "access" 1733 837,aT P "readonly" 1743 844,aT P "reckons" 1754 851,aT P "__static_attributes__" 1755 852,aT P "__dict__" 1757 855,aT P "__weakref__" 1759 856,kZ P "__doc__" 1760 .none]) 4),
 (855,vg 1756 854),
 (856,ve 1758 854)]
def C28:Kn:=jA P sE 1678 126 59 true [oj "StmtRule" 819 818 1682 1690]
def of:Kn:=F28 P++ol P
def sB:S6:=H1++sK
theorem q28(x:dI w os Z C28 of sB 859 1763 135 ⟨581,0,590,17⟩):dI w os Z C27 ol sK 824 1711 134 ⟨577,0,580,19⟩:=pc [3,12] 295 1 H1 x
def F29:Kn:=[oj "Roads" 882 881 1763 1771,
 (881,iU (qx P 1770 lu 1774 591 [aT P "__init__" 1781 872,aT P "unset" 1792 879,aT P "__static_attributes__" 1794 880,aT P "__dict__" 1796 883,aT P "__weakref__" 1798 884,kZ P "__doc__" 1799 .none]) 4),
 (872,kJ 135 0 "Roads.__init__" lu 871),
 (883,vg 1795 882),
 (884,ve 1797 882)]
noncomputable def H29:S6:=[(871,"Roads.__init__")]
def C29:Kn:=jA P sE 1678 127 60 true [oj "StmtRule" 819 818 1682 1690]
def n0:Kn:=F29 P++of P
def sx:S6:=H29++sB
theorem q29(x:dI w os Z C29 n0 sx 887 1802 136 ⟨591,0,597,17⟩):dI w os Z C28 of sB 859 1763 135 ⟨581,0,590,17⟩:=pc [3,12] 258 1 H29 x
def py:Kn:=[(965,iU (qx P 1809 lu 1813 598 [aT P "__init__" 1820 900,aT P "fits" 1830 907,aT P "lies" 1840 914,aT P "excess" 1850 921,aT P "meets" 1860 928,aT P "same" 1870 935,aT P "reduced" 1880 942,aT P "met" 1889 949,aT P "words" 1898 956,aT P "explain" 1911 963,aT P "__static_attributes__" 1913 964,aT P "__dict__" 1915 967,aT P "__weakref__" 1917 968,kZ P "__doc__" 1918 .none]) 4),
 (900,kJ 136 0 "Judge.__init__" lu 899),
 (907,kJ 136 1 "Judge.fits" lu 906),
 (921,kJ 136 3 "Judge.excess" lu 920),
 (942,kJ 136 6 "Judge.reduced" lu 941),
 (956,kJ 136 8 "Judge.words" lu 955),
 (963,kJ 136 9 "Judge.explain" lu 962),
 (967,vg 1914 966),
 (968,ve 1916 966)]
noncomputable def H30:S6:=[(899,"Judge.__init__"),(906,"Judge.fits"),(920,"Judge.excess"),(941,"Judge.reduced"),(955,"Judge.words"),(962,"Judge.explain")]
def C30:Kn:=jA P sE 1678 128 61 true [oj "StmtRule" 819 818 1682 1690,oj "Judge" 966 965 1802 1810]
def nz:Kn:=py P++n0 P
def sw:S6:=H30++sx
theorem q30(x:dI w os Z C30 nz sw 971 1921 137 ⟨598,0,628,55⟩):dI w os Z C29 n0 sx 887 1802 136 ⟨591,0,597,17⟩:=pc [3,12] 530 1 H30 x
def px:Kn:=[(1008,qV "PlainJudge" [.ref 966] [.ref 1008,.ref 966,.type "object"] 1007 [] [some (.ref 971),none,some (.str "PlainJudge" 1921),some (.str "PlainJudge" 1929),some (.builtin "object.__new__"),some (.bool true)]),
 (1007,iU (qx P 1928 lu 1932 629 [aT P "fits" 1942 984,aT P "lies" 1952 991,aT P "meets" 1962 998,aT P "same" 1972 1005,aT P "__static_attributes__" 1973 1006,kZ P "__doc__" 1974 (.none)]) 2),
 (984,kJ 137 0 "PlainJudge.fits" lu 983),
 (966,qV "Judge" [.type "object"] [.ref 966,.type "object"] 965 [.ref 1008] [none,none,some (.str "Judge" 1802),some (.str "Judge" 1810),some (.builtin "object.__new__"),some (.bool true)])]
noncomputable def H31:S6:=[(983,"PlainJudge.fits")]
def C31:Kn:=jA P sE 1678 129 62 true [oj "StmtRule" 819 818 1682 1690]
def mI:Kn:=px P++nz P
def so:S6:=H31++sw
theorem q31(x:dI w os Z C31 mI so 1011 1977 138 ⟨629,0,641,55⟩):dI w os Z C30 nz sw 971 1921 137 ⟨598,0,628,55⟩:=pc [3,966,12] 350 1 H31 x
def F32(P:Params):Kn:=[(1017,cX 138 "plain_part" lu 1016),
 (1024,cX 139 "ccore_plain_fits" lu 1023)]
noncomputable def H32:S6:=[(1016,"plain_part"),(1023,"ccore_plain_fits")]
def C32:Kn:=jA P sE 1678 131 64 true [oj "StmtRule" 819 818 1682 1690]
def my:Kn:=F32 P++mI P
def sh:S6:=H32++so
theorem q32(x:dI w os Z C32 my sh 1025 1999 140 ⟨650,0,662,24⟩):dI w os Z C31 mI so 1011 1977 138 ⟨629,0,641,55⟩:=pc [3,12] 68 2 H32 x
def F33:Kn:=[oj "Patterns" 1055 1054 1999 2007,
 (1054,iU (qx P 2006 lu 2010 663 [aT P "spread" 2021 1038,aT P "element" 2031 1045,aT P "names" 2041 1052,aT P "__static_attributes__" 2042 1053,aT P "__dict__" 2044 1056,aT P "__weakref__" 2046 1057,kZ P "__doc__" 2047 .none]) 4),
 (1052,kJ 140 2 "Patterns.names" lu 1051),
 (1056,vg 2043 1055),
 (1057,ve 2045 1055)]
noncomputable def H33:S6:=[(1051,"Patterns.names")]
def C33:Kn:=jA P sE 1678 132 65 true [oj "StmtRule" 819 818 1682 1690]
def mv:Kn:=F33 P++my P
def sg:S6:=H33++sh
theorem q33(x:dI w os Z C33 mv sg 1060 2050 141 ⟨663,0,675,21⟩):dI w os Z C32 my sh 1025 1999 140 ⟨650,0,662,24⟩:=pc [3,12] 294 1 H33 x
def F34:Kn:=[oj "Giver" 1076 1075 2050 2058,
 (1075,iU (qx P 2057 lu 2061 676 [aT P "given" 2071 1073,aT P "__static_attributes__" 2072 1074,aT P "__dict__" 2074 1077,aT P "__weakref__" 2076 1078,kZ P "__doc__" 2077 .none]) 4),
 (1073,kJ 141 0 "Giver.given" lu 1072),
 (1077,vg 2073 1076),
 (1078,ve 2075 1076)]
noncomputable def H34:S6:=[(1072,"Giver.given")]
def C34:Kn:=jA P sE 1678 133 66 true [oj "StmtRule" 819 818 1682 1690]
def mt:Kn:=F34 P++mv P
def rv:S6:=H34++sg
theorem q34(x:dI w os Z C34 mt rv 1081 2080 142 ⟨676,0,679,17⟩):dI w os Z C33 mv sg 1060 2050 141 ⟨663,0,675,21⟩:=pc [3,12] 225 1 H34 x
def F35:Kn:=[oj "Places" 1104 1103 2080 2088,
 (1103,iU (qx P 2087 lu 2091 680 [aT P "self_kind" 2100 1094,aT P "base_kind" 2109 1101,aT P "__static_attributes__" 2110 1102,aT P "__dict__" 2112 1105,aT P "__weakref__" 2114 1106,kZ P "__doc__" 2115 .none]) 4),
 (1105,vg 2111 1104),
 (1106,ve 2113 1104)]
def C35:Kn:=jA P sE 1678 134 67 true [oj "StmtRule" 819 818 1682 1690]
def mr:Kn:=F35 P++mt P
def rp:S6:=H1++rv
theorem q35(x:dI w os Z C35 mr rp 1109 2118 143 ⟨680,0,686,17⟩):dI w os Z C34 mt rv 1081 2080 142 ⟨676,0,679,17⟩:=pc [3,12] 257 1 H1 x
def F36:Kn:=[oj "FuncRule" 1125 1124 2118 2126,
 (1124,iU (qx P 2125 lu 2129 687 [aT P "check" 2139 1122,aT P "__static_attributes__" 2140 1123,aT P "__dict__" 2142 1126,aT P "__weakref__" 2144 1127,kZ P "__doc__" 2145 .none]) 4),
 (1122,kJ 143 0 "FuncRule.check" lu 1121),
 (1126,vg 2141 1125),
 (1127,ve 2143 1125)]
noncomputable def H36:S6:=[(1121,"FuncRule.check")]
def C36:Kn:=jA P sE 1678 135 68 true [oj "StmtRule" 819 818 1682 1690]
def mo:Kn:=F36 P++mr P
def ro:S6:=H36++rp
theorem q36(x:dI w os Z C36 mo ro 1130 2148 144 ⟨687,0,691,51⟩):dI w os Z C35 mr rp 1109 2118 143 ⟨680,0,686,17⟩:=pc [3,12] 225 1 H36 x
def F37:Kn:=[oj "Sheet" 1307 1306 2148 2156,
 (1306,iU (qx P 2155 lu 2159 692 [aT P "__init__" 2173 1143,aT P "expr" 2182 1150,aT P "stmt" 2190 1157,aT P "typed" 2198 1164,aT P "read" 2208 1171,aT P "wants" 2219 1178,aT P "fits" 2231 1185,aT P "func" 2240 1192,aT P "declared_of" 2248 1199,aT P "fault" 2258 1206,aT P "tell" 2269 1213,aT P "words" 2277 1220,aT P "note" 2286 1227,aT P "keep" 2295 1234,aT P "declare" 2304 1241,aT P "mark" 2312 1248,aT P "back" 2320 1255,aT P "tried" 2329 1262,aT P "given" 2338 1269,aT P "self_kind" 2346 1276,aT P "base_kind" 2354 1283,aT P "solid" 2363 1290,aT P "short" 2372 1297,aT P "road" 2381 1304,aT P "__static_attributes__" 2440 1305,aT P "__dict__" 2442 1308,aT P "__weakref__" 2444 1309,kZ P "__doc__" 2445 .none]) 4),
 (1143,kJ 144 0 "Sheet.__init__" lu 1142),
 (1150,kJ 144 1 "Sheet.expr" lu 1149),
 (1157,kJ 144 2 "Sheet.stmt" lu 1156),
 (1178,kJ 144 5 "Sheet.wants" lu 1177),
 (1185,kJ 144 6 "Sheet.fits" lu 1184),
 (1206,kJ 144 9 "Sheet.fault" lu 1205),
 (1213,kJ 144 10 "Sheet.tell" lu 1212),
 (1220,kJ 144 11 "Sheet.words" lu 1219),
 (1269,kJ 144 18 "Sheet.given" lu 1268),
 (1308,vg 2441 1307),
 (1309,ve 2443 1307)]
noncomputable def H37:S6:=[(1142,"Sheet.__init__"),(1149,"Sheet.expr"),(1156,"Sheet.stmt"),(1177,"Sheet.wants"),(1184,"Sheet.fits"),(1205,"Sheet.fault"),(1212,"Sheet.tell"),(1219,"Sheet.words"),(1268,"Sheet.given")]
def C37:Kn:=jA P sE 1678 136 69 true [oj "StmtRule" 819 818 1682 1690]
def mn:Kn:=F37 P++mo P
def rn:S6:=H37++ro
theorem q37(x:dI w os Z C37 mn rn 1312 2448 145 ⟨692,0,827,19⟩):dI w os Z C36 mo ro 1130 2148 144 ⟨687,0,691,51⟩:=pc [3,12] 1047 1 H37 x
def F38(P:Params):Kn:=[(1318,cX 145 "expr_kind" lu 1317),
 (1325,cX 146 "check_stmt" lu 1324),
 (1349,cX 150 "want_fit" lu 1348)]
noncomputable def H38:S6:=[(1317,"expr_kind"),(1324,"check_stmt"),(1348,"want_fit")]
def C38:Kn:=jA P Nz 2506 142 75 true [oj "StmtRule" 819 818 1682 1690]
def ml:Kn:=F38 P++mn P
def rk:S6:=H38++rn
theorem q38(x:dI w os Z C38 ml rk 1350 2508 152 ⟨905,0,905,8⟩):dI w os Z C37 mn rn 1312 2448 145 ⟨692,0,827,19⟩:=pc [3,12] 197 7 H38 x
def F39:Kn:=[(1366,qV "NothingRule" [.ref 819] [.ref 1366,.ref 819,.type "object"] 1365 [] [some (.ref 1350),none,some (.str "NothingRule" 2508),some (.str "NothingRule" 2516),some (.builtin "object.__new__"),some (.bool true)]),
 (1365,iU (qx P 2515 Xh 2519 906 [aT P "check" 2528 1363,aT P "__static_attributes__" 2529 1364,kZ P "__doc__" 2530 (.none)]) 2),
 (1363,kJ 152 0 "NothingRule.check" Xh 1362)]
noncomputable def H39:S6:=[(1362,"NothingRule.check")]
def C39:Kn:=jA P Nz 2506 143 76 true [(819,qV "StmtRule" [.type "object"] [.ref 819,.type "object"] 818 [.ref 1366] [none,none,some (.str "StmtRule" 1682),some (.str "StmtRule" 1690),some (.builtin "object.__new__"),some (.bool true)])]
def mg:Kn:=F39 P++ml P
def rh:S6:=H39++rk
theorem q39(x:dI w os Z C39 mg rh 1369 2533 153 ⟨906,0,909,19⟩):dI w os Z C38 ml rk 1350 2508 152 ⟨905,0,905,8⟩:=pc [3,819,12] 247 1 H39 x
def F40(P:Params):Kn:=[(1375,cX 153 "blank_return" Xh 1374)]
noncomputable def H40:S6:=[(1374,"blank_return")]
def C40:Kn:=jA P Nz 2506 144 77 true [(819,qV "StmtRule" [.type "object"] [.ref 819,.type "object"] 818 [.ref 1366] [none,none,some (.str "StmtRule" 1682),some (.str "StmtRule" 1690),some (.builtin "object.__new__"),some (.bool true)])]
def me:Kn:=F40 P++mg P
def re:S6:=H40++rh
theorem q40(x:dI w os Z C40 me re 1376 2542 154 ⟨910,0,912,52⟩):dI w os Z C39 mg rh 1369 2533 153 ⟨906,0,909,19⟩:=pc [3,12] 33 1 H40 x
def Zg:Kn:=[(1392,qV "ReturnRule" [.ref 819] [.ref 1392,.ref 819,.type "object"] 1391 [] [some (.ref 1376),none,some (.str "ReturnRule" 2542),some (.str "ReturnRule" 2550),some (.builtin "object.__new__"),some (.bool true)]),
 (1391,iU (qx P 2549 Xh 2553 913 [aT P "check" 2565 1389,aT P "__static_attributes__" 2566 1390,kZ P "__doc__" 2567 (.none)]) 2),
 (1389,kJ 154 0 "ReturnRule.check" Xh 1388),
 (819,qV "StmtRule" [.type "object"] [.ref 819,.type "object"] 818 [.ref 1366,.ref 1392] [none,none,some (.str "StmtRule" 1682),some (.str "StmtRule" 1690),some (.builtin "object.__new__"),some (.bool true)])]
noncomputable def H41:S6:=[(1388,"ReturnRule.check")]
def C41:Kn:=jA P Nz 2506 145 78 true []
def md:Kn:=Zg P++me P
def rd:S6:=H41++re
theorem q41(x:dI w os Z C41 md rd 1395 2570 155 ⟨913,0,931,59⟩):dI w os Z C40 me re 1376 2542 154 ⟨910,0,912,52⟩:=pc [3,819,12] 250 1 H41 x
def F42(P:Params):Kn:=[(1401,cX 174 "_law_wholes" mO 1400),
 (1409,I6 (fG 175) "_law_node" (.ref 1402) mO (.ref 1408)),
 (1402,iF [.int 0 2614] 0),
 (1414,cX 176 "_law_number" mO 1413),
 (1421,cX 177 "_law_take" mO 1420)]
noncomputable def H42:S6:=[(1400,"_law_wholes"),(1408,"_law_node"),(1413,"_law_number"),(1420,"_law_take")]
def C42:Kn:=jA P Jj 2570 167 82 true []
def mb:Kn:=F42 P++md P
def rc:S6:=H42++rd
theorem q42(x:dI w os Z C42 mb rc 1422 2641 178 ⟨963,0,966,55⟩):dI w os Z C41 md rd 1395 2570 155 ⟨913,0,931,59⟩:=pc [3,12] 293 23 H42 x
def F43(P:Params):Kn:=[(1428,cX 178 "_law_values" mO 1427),
 (1435,cX 179 "_law_seen" mO 1434),
 (1442,cX 180 "_law_hints" mO 1441),
 (1449,cX 181 "_law_written" mO 1448),
 (1456,cX 182 "_law_block" mO 1455),
 (1463,cX 183 "_law_stmt" mO 1462),
 (1468,cX 184 "_law_join" mO 1467),
 (1475,cX 185 "_law_flow" mO 1474),
 (1482,cX 186 "_law_out" mO 1481)]
noncomputable def H43:S6:=[(1427,"_law_values"),(1434,"_law_seen"),(1441,"_law_hints"),(1448,"_law_written"),(1455,"_law_block"),(1462,"_law_stmt"),(1467,"_law_join"),(1474,"_law_flow"),(1481,"_law_out")]
def C43:Kn:=jA P Jj 2570 176 91 true []
def ma:Kn:=F43 P++mb P
def ra:S6:=H43++rc
theorem q43(x:dI w os Z C43 ma ra 1483 2744 187 ⟨1053,0,1071,73⟩):dI w os Z C42 mb rc 1422 2641 178 ⟨963,0,966,55⟩:=pc [3,12] 301 9 H43 x
def F44(P:Params):Kn:=[(1487,cX 187 "_law_settled" mO 1486),
 (1494,cX 188 "_law_goes" mO 1493),
 (1501,cX 189 "_law_faults" mO 1500),
 (1506,cX 190 "_law_sheet" mO 1505),
 (1511,cX 191 "law" mO 1510)]
noncomputable def H44:S6:=[(1486,"_law_settled"),(1493,"_law_goes"),(1500,"_law_faults"),(1505,"_law_sheet"),(1510,"law")]
def uj:Kn:=jA P Jj 2570 181 96 true []
def lw:Kn:=F44 P++ma P
def qr:S6:=H44++ra
theorem q44(x:dI w os Z uj lw qr 1512 2787 192 ⟨1132,0,1197,108⟩):dI w os Z C43 ma ra 1483 2744 187 ⟨1053,0,1071,73⟩:=pc [3,12] 149 5 H44 x
end
end

section
noncomputable def B0(P:Params):Kn:=[(0,boot_o_0 P),(1,boot_o_1 P),(2,boot_o_2 P),(3,boot_o_3 P),(4,boot_o_4 P),(5,boot_o_5 P),(6,boot_o_6 P),(7,boot_o_7 P),(8,boot_o_8 P),(9,boot_o_9 P),(10,boot_o_10 P)]
def Sf(as:Kn):SP×Thread->List (Option Obj)×Nat×aau×Drawn×Nat×OsState×Thread
 |(sp,t)=>(as.map (λp=>gG p.1 sp.K),sp.n,sp.c,sp.d,sp.a,sp.b,t)
def XX(w:World)(os:OsState):Option (SP×Thread):=Xx PySem.W.Fast.tw8437177126325714943 PySem.W.Fast.tw6613529449190102663 (PySem.W.Fast.tw11892475500146522536 PySem.W.Fast.tw14364793385576792824) PW w 11 (some (.ref 6)) 11 [] 12 ⟨B0 w.params,11,Array.mk [],boot_drawn,boot_toks,os⟩ (topStub PW)
theorem Lv(w:World)(os:OsState):(XX w os).map (Sf (C0 w.params++G0 w.params))=some ((C0 w.params++G0 w.params).map (λp=>some p.2),15,Array.mk [],boot_drawn,187,os,⟨PySem.W.Fast.tw11892475500146522536 PySem.W.Fast.tw14364793385576792824 (.body PW.main.body xq),cT,p0,bT⟩):=by kernel_rfl
theorem LU(w:World)(s:Shared)(c:Code)(pos:Pos):topRun treeTable PW w 11 (some (.ref 6)) 4 s ⟨doneF .next,c,pos,bT⟩=some s:=by obtain⟨h,g,d,t,o⟩:=s;rfl
theorem My:PW.main.body.drop 192=[]:=by kernel_rfl
abbrev oK(w:World)(os:OsState)(s:Shared):Prop:=vM s ⟨uj w.params++lw w.params,1512,Array.mk [],boot_drawn,2787,os⟩ qr
theorem Lq(w:World)(os:OsState)(s:Shared)(K:vM s ⟨C0 w.params++G0 w.params,15,Array.mk [],boot_drawn,187,os⟩ D0):IU w (oK w os) s (restOf (PW.main.body.drop 0) xq cT ⟨0,0,0,0⟩ bT):=
 (show dI w os (oK w os) C0 G0 D0 15 187 0 ⟨0,0,0,0⟩from q1<|q2<|q3<|q4<|q5<|q6<|q7<|q8<|q9<|q10<|q11<|q12<|q13<|q14<|q15<|q16<|q17<|q18<|q19<|q20<|q21<|q22<|q23<|fo<|q25<|q26<|q27<|q28<|q29<|q30<|q31<|q32<|q33<|q34<|q35<|q36<|q37<|q38<|q39<|q40<|q41<|q42<|q43<|q44<|λs K=>by
 rw[My];exact⟨4,s,piece_nil (LU w s _ _),K⟩) s K
theorem MI(w:World)(os:OsState):lO ⟨boot_heap w.params,Array.mk [],boot_drawn,boot_toks,os⟩ ⟨B0 w.params,11,Array.mk [],boot_drawn,boot_toks,os⟩:=by
 refine⟨λa o h=>?_,by kernel_rfl,rfl,rfl,rfl,rfl⟩
 have hm:=vY h;simp only[B0,aF,Ak,gm,or_false]at hm
 rcases hm with⟨rfl,rfl⟩|⟨rfl,rfl⟩|⟨rfl,rfl⟩|⟨rfl,rfl⟩|⟨rfl,rfl⟩|⟨rfl,rfl⟩|⟨rfl,rfl⟩|⟨rfl,rfl⟩|⟨rfl,rfl⟩|⟨rfl,rfl⟩|⟨rfl,rfl⟩<;>kernel_rfl
theorem KZ(w:World)(os:OsState):IU w (oK w os) ⟨boot_heap w.params,Array.mk [],boot_drawn,boot_toks,os⟩ (topStub PW):=by
 obtain⟨⟨sp,t⟩,e1,e2⟩:=aC.mp (Lv w os);unfold XX at e1
 rw[<-FE,<-Sb,<-tO,<-zf]at e1
 rw[<-tO,<-zf]at e2
 obtain⟨K',n1,g1,d1,t1,fp⟩:=sp;simp only[Sf,Ak]at e2
 obtain⟨v1,rfl,rfl,rfl,rfl,rfl,rfl⟩:=e2;obtain⟨s',r1,R1,F1,J⟩:=Me e1 (MI w fp) (aH _);have K:vM s' ⟨C0 w.params++G0 w.params,15,Array.mk [],boot_drawn,187,fp⟩ D0:=⟨⟨λa o h=>R1.b a o (tS v1 h),R1.c,R1.d,R1.g,R1.e,R1.f⟩,λp hp=>nomatch hp⟩
 obtain⟨N,r,h,hP⟩:=Lq w fp s' K;have z:segRun treeTable PW w 11 (some (.ref 6)) 1 1 s' (blockOf PW.main.body xq cT p0 bT)=some (.next,s',cT,p0):=by kernel_rfl
 exact⟨_,r,go_top r1 (piece_block z h),hP⟩
end

theorem vV:importedModules PW.main.body=[]:=by kernel_rfl
theorem LC:PW.main.body.any namesNumpy=false:=by kernel_rfl
theorem xU:opening PW=plainProg PW.main.scope.names:=by kernel_rfl
theorem Mn(s:Shared):fenceModules? PW s=some s:=by unfold fenceModules?;rw[vV,LC];rfl
theorem fO{h h':Heap}{a:Addr}(e:h.get? a=h'.get? a):h.isNs a=h'.isNs a:=by unfold Heap.isNs;rw[e]
theorem gu{h h':Heap}{a:Addr}(e:h.get? a=h'.get? a):h.nsMap a=h'.nsMap a:=by funext n;unfold Heap.nsMap;rw[e]
theorem oq{h h':Heap}{a:Addr}(e:h.get? a=h'.get? a):h.nsKeys a=h'.nsKeys a:=by unfold Heap.nsKeys;rw[e]
theorem xV{h h':Heap}{a:Addr}(e:h.get? a=h'.get? a):h.nsPairs a=h'.nsPairs a:=by unfold Heap.nsPairs;rw[e]
section
def hz(P:Params):Heap:=⟨⟨[boot_o_0 P,boot_o_1 P,Jk P,Jr P "law_rh0144_01" 2570 181,boot_o_4 P]⟩,{}⟩
theorem ET(P:Params):(hz P).bltView=bltViewBooted:=by kernel_rfl
theorem BA(P:Params):(hz P).isNs builtinsNs=true:=by kernel_rfl
theorem r5(P:Params):(hz P).isNs mainGlobals=true:=by kernel_rfl
theorem Ec(P:Params):staticsOk [] (boot_heap P) (hz P)=true:=by kernel_rfl
theorem Aw(P:Params):(hz P).accountedOkI []=true:=by kernel_rfl
theorem LL(P:Params):namesBound PW (hz P)=true:=by kernel_rfl
theorem QU(P:Params):laidKept (boot_heap P) (hz P)=true:=by kernel_rfl
end

theorem vM.I{s:Shared}{sp:SP}{cd:S6}(K:vM s sp cd){a:Nat}{o:Obj}(h:gG a sp.K=some o):s.heap.get? a=alive o:=kH (K.b.b a o h)
theorem oK.bv'{w:World}{os:OsState}{s:Shared}(K:oK w os s):s.heap.get? builtinsNs=(hz w.params).get? builtinsNs:=(K.I (o:=boot_o_0 w.params) (by kernel_rfl)).trans (by kernel_rfl)
theorem oK.bu'{w:World}{os:OsState}{s:Shared}(K:oK w os s):s.heap.get? cStatics=(hz w.params).get? cStatics:=(K.I (o:=Jk w.params) (by kernel_rfl)).trans (by kernel_rfl)
theorem oK.bt'{w:World}{os:OsState}{s:Shared}(K:oK w os s):s.heap.get? mainGlobals=(hz w.params).get? mainGlobals:=(K.I (o:=Jr w.params "law_rh0144_01" 2570 181) (by kernel_rfl)).trans (by kernel_rfl)
theorem oK.bw'{w:World}{os:OsState}{s:Shared}(K:oK w os s):s.heap.get? 4=(hz w.params).get? 4:=(K.I (o:=boot_o_4 w.params) (by kernel_rfl)).trans (by kernel_rfl)
theorem MM(P:Params):(hz P).nsMap mainGlobals "__builtins__"=some (.ref 4):=by kernel_rfl
theorem Ig(P:Params):((boot_heap P).isNs mainGlobals,(boot_heap P).objs.size,(boot_heap P).nsMap mainGlobals "__annotations__")=(true,11,some (.ref 6)):=by kernel_rfl
theorem Ws(P:Params):∃o,(hz P).get? 4=some o/\o.cls=.type "module"/\o.dict=some builtinsNs:=⟨boot_o_4 P,by kernel_rfl,by kernel_rfl,by kernel_rfl⟩
theorem wM(w:World):(∃s,AfterRun (opening PW) w s)/\∀s,AfterRun (opening PW) w s->∃Ea,fenceModules? PW s=some Ea/\Ea.gens= #[]/\∃cu os,TopRan PW w Ea cu/\cu.asleep/\oK w os cu:=by
 obtain⟨⟨h,gs,d,k,os⟩,e,e'⟩:=aC.mp (boot_open (p:=PW) (N:=600) xU rfl Mn w);obtain⟨rfl,rfl,rfl,rfl⟩:h=boot_heap w.params/\gs=Array.mk []/\d=boot_drawn/\k=boot_toks:=by simpa using e'
 obtain⟨s,h4,h5⟩:=lF.mp e;rw[<-table_eq_tree]at h4
 have A:=AfterImport.of_importEnds h4;refine⟨⟨s,A⟩,λs' Ac=>?_⟩
 obtain rfl:s'=s:=AfterImport.unique Ac A;have z:(Shared.mk (boot_heap w.params) (Array.mk []) boot_drawn boot_toks os).asleep:=Shared.asleep_of_life (fence_lifeW h5) A.life;obtain⟨N,cu,h6,K⟩:=KZ w os;rw[<-table_eq_tree]at h6
 obtain⟨a,l,kt,fr⟩:=topRun_spec _ _ _ _ z h6;have g2:=K.bu';have g3:=K.bt';have g0:=K.bv';have g4:=K.bw';have hg:cu.heap.isNs mainGlobals=true:=(fO g3).trans (r5 _);have hb:cu.heap.isNs builtinsNs=true:=(fO g0).trans (BA _);have eb:cu.heap.bltView=bltViewBooted:=by rw[<-ET w.params];unfold Heap.bltView;rw[xV g0]
 have AG:cu.gens= #[]:=K.b.d;have hs:staticsOk [] (boot_heap w.params) cu.heap=true:=by rw[<-Ec w.params];unfold staticsOk;rw[fO g2,gu g2,oq g2]
 have hk:cu.heap.accountedOkI []=true:=by rw[<-Aw w.params];unfold Heap.accountedOkI;rw[fO g2,gu g2,oq g2]
 have hn:namesBound PW cu.heap=true:=by rw[<-LL w.params];unfold namesBound;rw[fO g3,oq g3]
 have hl:laidKept (boot_heap w.params) cu.heap=true:=by rw[<-QU w.params];unfold laidKept;rw[fO g3,gu g3]
 have bi:=Ig w.params;simp only[Ak]at bi
 obtain⟨o4,b1,b2,b3⟩:=Ws w.params;refine⟨_,h5,rfl,cu,os,⟨a,l,Shared.rest_eq kt,λb o hb hn=>?_,?_,?_,Pin.keysAreStrs_of hg,λx hx=>(Pin.builtinOf_eq hb x).trans (Heap.of_bltView hb eb x hx),⟨4,o4,?_,g4.trans b1,b2,b3⟩,?_,names_of_bound hn,laid_of_kept hl⟩,Shared.asleep_of_life l z,K⟩
 .refine fr b o ?_ (λq=>hn (.inl q)) (λq=>hn (.inr (.inl q))) (λq=>hn (.inr (.inr ((Pin.globalOf_eq bi.1 _).trans (bi.2.2.trans q))))) hb
  rw[<-bi.2.1];exact yZ hb
 .rw[vV];exact Heap.accountedI_of_ok hk
 .rw[vV];exact statics_of_ok hs
 .rw[Pin.globalOf_eq hg,gu g3];exact MM _
 .intro g hgm;rw[AG]at hgm
  simp at hgm

noncomputable abbrev LW:OpenLaw:=PySem.Challenge.rw_rh0144_01
theorem fK{a b:Bool}(x:a=true)(y:b=true):(a&&b)=true:=by rw[x,y];rfl
theorem ZS:(sreFenced LW.prog.main&&((moduleNames LW.prog.main.body).isEmpty||lookedIntoSs (moduleNames LW.prog.main.body) LW.prog.main.body))=true:=by kernel_rfl
theorem ZR:namesResolve LW.prog=true:=by rw[PySem.W.Fast.te8377067652309620493];kernel_rfl
theorem ZQ:LW.prog.boundNames.all (λn=> !worldNames.contains n)=true:=by kernel_rfl
theorem VC:(!(importedModules LW.prog.main.body).all cThrough.contains)=false:=by kernel_rfl
theorem VB:(["vars","dir","locals"]:aab).filter (readsOut LW.prog LW.prog.main.body)=[]:=by rw[PySem.W.Fast.te13343964577679436407];kernel_rfl
theorem VA:noRoadLSs {strict:=false,foot:=none,bare:=[]} LW.prog.main.body=true:=by rw[PySem.W.Fast.te8326940854005059898];kernel_rfl
theorem ZP:noRoadLSs {strict:= !(importedModules LW.prog.main.body).all cThrough.contains,foot:=none,bare:=(["vars","dir","locals"]:aab).filter (readsOut LW.prog LW.prog.main.body)} LW.prog.main.body=true:=by rw[VC,VB];exact VA
theorem ZO:namesMeet LW.prog LW.prog.main.body (λJ n=>attrL n)=true:=by rw[gf,PySem.W.Fast.te17868728402115742887];kernel_rfl
theorem EC:looksOpen LW.prog=true:=fK (fK (fK (fK ZS ZR) ZQ) ZP) ZO
theorem HE:LW.row.partSaid=true:=by unfold OpenRow.partSaid;refine fK (fK (fK (fK (fK (fK (fK (fK (fK (fK (fK (fK (fK EC ?_) ?_) ?_) ?_) ?_) ?_) ?_) ?_) ?_) ?_) ?_) ?_) ?_ <;>kernel_rfl
theorem Hs:(LW.row.prog.boundNames.contains LW.row.name)=true:=by kernel_rfl
theorem Qx:(!startupNames.contains LW.row.name)=true:=by kernel_rfl
theorem Bc:LW.row.wellSaid=true:=fK (fK HE Hs) Qx
theorem ZD:decide (LW.foot<=(behindTheImports LW.prog).length)=true:=by kernel_rfl
theorem ZC:LW.footing.all footLine=true:=by kernel_rfl
theorem ZA:noClassBlock LW.prog LW.footing=true:=by kernel_rfl
theorem Zz:noRoadLSs {strict:=true,foot:=some LW.bound',writes:=LW.writes,may:=LW.may} LW.footing=true:=by rw[PySem.W.Fast.te8326940854005059898,PySem.W.Fast.te797321630700447069];kernel_rfl
theorem Zy:LW.namesIt=true:=by rw[PySem.W.Fast.te16286561074155671207];kernel_rfl
theorem Vf:LW.bound'.all (λn=> !builtinNamed n||LW.about==[n]|| !LW.reads n)=true:=by rw[PySem.W.Fast.named_eq,PySem.W.Fast.te797321630700447069];kernel_rfl
theorem Ve:namesMeet LW.prog LW.footing (λsc n=>(!(["type","isinstance","issubclass","getattr","hasattr"]:aab).contains n||sc.names.lookup n==some .globalImplicit)&&
  (LW.may != some n||sc.kind== .module||sc.names.lookup n==some .globalImplicit))=true:=by
 rw[gf];kernel_rfl
theorem Vd:LW.own.contains LW.name=true:=by kernel_rfl
theorem Qv:(LW.own.eraseDups.length==LW.own.length)=true:=by kernel_rfl
theorem Qu:LW.own.all (λn=> !builtinNamed n)=true:=by rw[PySem.W.Fast.named_eq];kernel_rfl
theorem Vc:namesMeet LW.prog LW.above (λJ n=> !LW.own.contains n)=true:=by rw[gf,PySem.W.Fast.te10792542408131684335];kernel_rfl
theorem Vb:namesMeet LW.prog LW.footing (λsc n=>sc.kind== .module||sc.names.lookup n != some .globalExplicit)=true:=by rw[gf];kernel_rfl
theorem GO:LW.wellSaid=true:=by unfold OpenLaw.wellSaid;refine fK (fK (fK (fK (fK (fK (fK (fK (fK (fK (fK (fK (fK (fK (fK (fK (fK (fK Bc ZD) ZC) ZA) ?_) ?_) Zz) ?_) Zy) ?_) Vf) ?_) ?_) Ve) Vd) Qv) Qu) Vc) Vb<;>kernel_rfl
theorem Et:opensWell PW=true:=by kernel_rfl
noncomputable abbrev wH(p:Program)(b:aaj):Bool:=TablesWhole.wSs TablesWhole.holds p.main.scope ⟨p.main.scope,[],[],[],none⟩ p.main.scope b
noncomputable abbrev wG(p:Program):aab:=TablesWhole.wSs TablesWhole.gather p.main.scope ⟨p.main.scope,[],[],[],none⟩ p.main.scope p.main.body
theorem KO{p:Program}(h1:p.modules=[])(h2:p.parses=[])(h3:p.harvested=[])(a:TablesWhole.noTwice p.main.scope=true)(t:wG p=[])(b:wH p p.main.body=true):p.tablesWhole=true:=by show((true&&(TablesWhole.noTwice p.main.scope&&(TablesWhole.wSs TablesWhole.holds p.main.scope ⟨p.main.scope,[],wG p,[],none⟩ p.main.scope p.main.body&&true)))&&(TablesWhole.Alg.all TablesWhole.holds (p.modules.map _)&&(TablesWhole.Alg.all TablesWhole.holds (p.parses.map _)&&(TablesWhole.Alg.all TablesWhole.holds (p.harvested.map _)&&true))))=true;rw[t,a,show TablesWhole.wSs TablesWhole.holds p.main.scope ⟨p.main.scope,[],[],[],none⟩ p.main.scope p.main.body=true from b,h1,h2,h3];rfl
theorem JE{p:Program}{b:aaj}:∀{a:aaj},wH p a=true->wH p b=true->wH p (a++b)=true
 |[],J,h=>h
 |x::r,h,g=>by have h:=ak.mp h;exact fK h.1 (JE h.2 g)
theorem UJ:TablesWhole.noTwice PW.main.scope=true:=by kernel_rfl
theorem UI:wG PW=[]:=by kernel_rfl
theorem UH:wH PW (PW.main.body.take 90)=true:=by kernel_rfl
theorem UG:wH PW (PW.main.body.drop 90)=true:=by kernel_rfl
theorem Rv:PW.bare:=⟨rfl,rfl,rfl,rfl,rfl,KO rfl rfl rfl UJ UI ((List.take_append_drop 90 PW.main.body).symm▸JE UH UG)⟩

noncomputable def Wy(fd:FuncData):aaj:=match fd.body with
 |.stmts b=>b
 |_=>[]
def Gy:Prop:=∀(w:World)(os:OsState)(s cu:Shared)(l:Addr)(o:Obj)(items:WA)(n:Nat)(ns:S1),oK w os s->(∀b o,s.heap.get? b=some o->cu.heap.get? b=some o)->
 s.heap.objs.size<=l->cu.heap.get? l=some o->o.cls=.type "list"->o.data=.seq items n->IntsAre items.toList ns->ns.length<=63->cu.gens= #[]->
 wpAny (model PW w) callerA (call (.ref 1511) [.ref l]) (λv s'=>v=.bool true/\(∀b o,cu.heap.get? b=some o->s'.heap.get? b=some o)/\s'.os=cu.os/\s'.gens= #[]) (λJ J=>False) cu
theorem QX{R:WRecords}{x:WData}{xs:List WData}(h:WShape.hasItems R (x::xs) .int=true):(∃i,x=.int i)/\WShape.hasItems R xs .int=true:=by
 obtain⟨h1,h2⟩:=ak.mp h;refine⟨?_,h2⟩
 induction x using W.WData.casesOn with
 |int i=>exact⟨i,rfl⟩
 |_=>exact absurd (show false=true from h1) aO
theorem Mb{R:WRecords}{x:WData}(h:WShape.has R x (.list .int)=true):∃ys,x=.list ys/\WShape.hasItems R ys .int=true:=by
 induction x using W.WData.casesOn with
 |list ys=>exact⟨ys,rfl,(d7 _).symm.trans h⟩
 |_=>exact absurd (show false=true from h) aO
theorem QF{R:WRecords}{args:List WData}(h:WShape.hasAll R args [.list .int]=true):∃ys,args=[.list ys]/\WShape.hasItems R ys .int=true:=by
 induction args using aQ with
 |nil=>exact ft h
 |cons x r=>
  obtain⟨h1,h2⟩:=ak.mp h
  induction r using aQ with
  |cons J J=>exact ft h2
  |nil=>exact(Mb h1).elim λys e=>⟨ys,congrArg (· ::[]) e.1,e.2⟩
theorem LZ{R:WRecords}{cl:Str->Option Addr}{h:Heap}{xs:List WData}:∀{vs:S9}{as:List Addr},WShape.hasItems R xs .int=true->ReadsAllW R cl h vs xs as->∃ns,IntsAre vs ns/\xs=ns.map WData.int:=by
 induction xs with
 |nil=>exactλJ r=>(readsAllW_nil_inv r).1▸⟨[],.nil,rfl⟩
 |cons x xs ih=>
  intro vs as hx r;obtain⟨v,Cv,a,b,e,J,r1,r2⟩:=readsAllW_cons_inv r;obtain⟨⟨i,e2⟩,h2⟩:=QX hx;obtain⟨ns,h3,h4⟩:=ih h2 r2;rw[e2]at r1
  obtain⟨t,e3,J⟩:=readsW_int_inv r1;rw[e,e2,e3,h4];exact⟨i::ns,.cons _ _ h3,rfl⟩
structure RV(h:Heap)(as:List Addr)(vs:S9)(l:Addr)(o:Obj)(items:WA)(n:Nat)(ns:S1):Prop where
 c:vs=[.ref l]
 f:h.get? l=some o
 e:o.cls=.type "list"
 d:o.data=.seq items n
 b:IntsAre items.toList ns
 a:l∈as
theorem Lx{R:WRecords}{cl:Str->Option Addr}{h:Heap}{args:List WData}{vs:S9}{as:List Addr}(hs:WShape.hasAll R args [.list .int]=true)(hr:ReadsAllW R cl h vs args as):∃l o items n ns,args=[.list (ns.map WData.int)]/\RV h as vs l o items n ns:=by
 obtain⟨ys,ea,hi⟩:=QF hs;rw[ea]at hr⊢
 obtain⟨v,Cv,a,b,e,e1,r1,r2⟩:=readsAllW_cons_inv hr;obtain⟨l,o,cZ,n,ai,e2,g,c,d,r3,e3⟩:=readsW_list_open r1;obtain⟨ns,hI,e4⟩:=LZ hi r3;refine⟨l,o,cZ,n,ns,by rw[e4],?_,g,c,d,hI,?_⟩
 .rw[e,e2,(readsAllW_nil_inv r2).1]
 .rw[e1,e3];exact b9 _ aj
theorem VG{xs:List WData}(h:WTm.holds [] (.and (.not (.lt (.lit (.int 63)) (.len (.arg 0)))) (.lit (.bool true))) {args:=[.list xs]}=true):xs.length<=63:=by
 have e:WTm.holds [] (.and (.not (.lt (.lit (.int 63)) (.len (.arg 0)))) (.lit (.bool true))) {args:=[.list xs]}=WTm.holds [] (.and (.not (.lit (.bool (decide ((63:Int)<(xs.length:Int)))))) (.lit (.bool true))) {args:=[]}:=rfl;refine cH λq=>?_
 rw[e,decide_eq_true (by exact TH (.n 63) ja [.b (.n 63) ja] rfl (dK.mpr q))]at h
 exact absurd (show false=true from h) aO
theorem HU:(frees LW.row.toRowW&&LW.row.toRowW.within.isEmpty)=true:=by kernel_rfl
theorem sC:LW.row.toRowW.promised:=⟨[.list [.int 3,.int 1]],by kernel_rfl,by kernel_rfl⟩
theorem L8(H:Gy):LW.Holds:=by
 refine⟨GO,Bc,sC,⟨Rv,Et,rfl⟩,sC.imp λa h=>⟨h.1,(ak.mp h.2).1⟩,λw=>⟨(wM w).1,λs' Ac=>?_⟩⟩
 obtain⟨Ea,hf,hg0,s,os,hT,AT,K⟩:=(wM w).2 s' Ac;refine⟨Ea,hf,hg0,s,hT,?_,(λx hx=>nomatch hx),(λx hx=>nomatch hx),?_⟩
 .intro n hn;have hn':n∈[("law":Str)]:=hn;rw[aB]at hn'
  subst hn';have g3:=K.bt';have hg:s.heap.isNs mainGlobals=true:=(fO g3).trans (r5 _);have e:=K.I (a:=1511) (o:=I6 (fG 191) "law" .none (.str "law_rh0144_01" 2570) (.ref 1510)) (by kernel_rfl)
  refine⟨1511,_,Oo (fG 191) "law" .none (.str "law_rh0144_01" 2570) (.ref 1510),(Oo (fG 191) "law" .none .none .none).params,Wy (Oo (fG 191) "law" .none .none .none),(Oo (fG 191) "law" .none .none .none).scope,(Pin.globalOf_eq hg _).trans ((congrFun (gu g3) _).trans (by kernel_rfl)),e,by kernel_rfl,by kernel_rfl,by kernel_rfl,by kernel_rfl,by kernel_rfl,by kernel_rfl,by kernel_rfl,by kernel_rfl,by kernel_rfl,by kernel_rfl,.inl ⟨by kernel_rfl,by kernel_rfl⟩,[],by kernel_rfl,.inl ⟨rfl,by kernel_rfl⟩⟩
 .have AG:s.gens= #[]:=K.b.d;have g3:=K.bt';have hg:s.heap.isNs mainGlobals=true:=(fO g3).trans (r5 _);obtain⟨k5,k6⟩:=ak.mp HU;obtain⟨Z3,hu,ha,hap,hm⟩:=frees_parts k5;have hi:=ident_freeW hu ha hap;have hwi:LW.row.toRowW.claim.within=[]:=rfl;refine ClaimW.callFrom_of_specG (c:=LW.row.toRowW.claim) (tree:=λvs=>do
   match<-nsGet mainNs ("law":Str)with
   |some f=>do ret (<-call f vs)
   |none=>unsupported "claim.caller:no-such-global") AT AG λargs BM Cl ord Ye=>?_
  obtain⟨hsh,hpr⟩:=pre_splitW (r:=LW.row.toRowW) BM;obtain⟨⟨vs,cu⟩,AF⟩:=bz.mp (layAllW_isSome (P:=w.params) (ord:=ord) (cl:=classAt s.heap) (λc hc=>by exact ft hc) args LW.row.args s hsh)
  have keeps:=layAllW_keeps _ _ _ AF;have x7:=layAllW_rest _ _ _ AF;obtain⟨as,hrd,hin,Ch⟩:=reads_layAllW Ye _ _ _ AF Cl cu.heap (λJ J e=>e)
  have L:Laid LW.row.toRowW.records w s cu args vs as:=⟨⟨ord,Ye,AF⟩,hrd,hin,Ch,keeps,x7.1.trans AG,x7.2.2.1⟩;refine⟨vs,cu,AF,?_⟩;obtain⟨l,o,items,n,ns,ea,O⟩:=Lx hsh hrd;subst ea;obtain rfl:=O.c;have xo:ns.length<=63:=by have:=VG hpr;rwa [ao]at this
  have D:=H w os s cu l o items n ns K keeps (hin.2.2 l O.a).1 O.f O.e O.d O.b xo (x7.1.trans AG);have hmg:cu.heap.Ns mainGlobals ((hz w.params).nsMap mainGlobals):=by
   have:=Heap.Ns.of_isNs hg;rw[gu g3]at this
   exact this.keeps keeps
  refine wpAny_bind (wpAny_nsGet hmg ?_);rw[show(hz w.params).nsMap mainGlobals "law"=some (.ref 1511)by kernel_rfl]
  refine wpAny_bind (wpAny_mono D (λv s' g=>?_) λJ J g=>g.elim)
  obtain⟨rfl,old,kt,eg⟩:=g;have G:GoodWG LW.row.toRowW.claim (classAt s.heap) (ExcName.means s.heap) [.list (ns.map WData.int)] cu (.ok (.ret (.bool true))) s':=by
   refine⟨.inl ⟨_,_,[],rfl,λJ=>rfl,.bool true,?_,λJ=>⟨qi,λa ha=>nomatch ha⟩⟩,.of_keep old,kt,.of_eq eg⟩
   kernel_rfl
  have z:=G.laid (c:=LW.row.toRowW.claim) Z3 hwi hi L;exact wpAny_pure ⟨_,rfl,z.1,z.2.1,z.2.2,λq=>nomatch q⟩

structure FI where
 a:Nat
 b:Stmt
 q:Str
 d:Value
 m:Value
 c:Nat
 e:WE
 f:S9
noncomputable def rB(fd:FuncData):aaj:=match fd.body with
 |.stmts b=>b
 |_=>[]
noncomputable def aG(x:Str)(i:Nat):Str×Nat:=(x,i)
noncomputable def Qe:aag:=[false,true,false,false,false,false,false,false,false,true,true,true,true,true,true,true,true,true,true,true,true,true,true,true,true,false,false,false,false,true,true,true,true,true,true,true,true,true,false,true]
noncomputable def Qd:aag:=[true,true,true,true,true,true,true,true,false,false,false,false,false,false,false,false,false,true,true,false,false,false,false,false,false,false,false,true,true,true,false,true,false,true,true,true,true,true,true,true]
noncomputable def Qc:aag:=[true,true,true,true,true,true,true,true,true,true,true]
def CH:aag:=Qe++Qd++Qc
noncomputable def Wr:S5:=[44,140,174,216,278,454,489,583,798,819,854,882,966,1008,1055,1076,1104,1125,1307,1366,1392]
def DS:S5:=Wr
noncomputable def Wm:aab:=["Node","Diag","Diags","Notes","TypeTable","Graph","Stops","Frame","Thin","StmtRule","Guard","Roads","Judge","PlainJudge","Patterns","Giver","Places","FuncRule","Sheet","NothingRule","ReturnRule"]
def bj:aab:=Wm
def V0:List FI:=[⟨41,d8 12 0,"Node.__init__",.none,(.str "kindkeep.nodes" 194),40,[aG "self" 0,aG "kind" 1,aG "a" 2,aG "kids" 3,aG "flags" 4,aG "at" 5],[]⟩,⟨55,fG 13,"has",.none,(.str "kindkeep.nodes" 194),54,[aG "node" 0,aG "flag" 1],[]⟩,⟨130,d8 19 0,"Diag.__init__",.none,(.str "kindkeep.diags" 528),129,[aG "self" 0,aG "number" 1,aG "at" 2,aG "args" 3,aG "file" 4],[]⟩,⟨159,d8 20 0,"Diags.__init__",(.ref 152),(.str "kindkeep.diags" 528),158,[aG "self" 0,aG "file" 1],[.str "" 673]⟩,⟨166,d8 20 1,"Diags.put",.none,(.str "kindkeep.diags" 528),165,[aG "self" 0,aG "number" 1,aG "at" 2,aG "args" 3],[]⟩,⟨192,d8 21 0,"Notes.__init__",.none,(.str "kindkeep.diags" 528),191,[aG "self" 0],[]⟩,⟨199,d8 21 1,"Notes.put",.none,(.str "kindkeep.diags" 528),198,[aG "self" 0,aG "code" 1,aG "at" 2],[]⟩,⟨261,d8 71 0,"TypeTable.__init__",.none,(.str "kindkeep.types" 762),260,[aG "self" 0,aG "row" 1],[]⟩,⟨275,d8 71 2,"TypeTable.put",.none,(.str "kindkeep.types" 762),274,[aG "self" 0,aG "row" 1,aG "t" 2],[]⟩,⟨289,fG 72,"kind_of",.none,(.str "kindkeep.types" 762),288,[aG "tab" 0,aG "t" 1],[]⟩,⟨314,fG 75,"sig_type",(.ref 307),(.str "kindkeep.types" 762),313,[aG "tab" 0,aG "tparams" 1,aG "params" 2,aG "ret" 3,aG "pred" 4,aG "flags" 5],[.ref 306,.int 0 970]⟩,⟨321,fG 76,"parts_of",.none,(.str "kindkeep.types" 762),320,[aG "tab" 0,aG "t" 1,aG "row" 2],[]⟩,⟨328,fG 77,"whole_of_row",.none,(.str "kindkeep.types" 762),327,[aG "row" 0,aG "kind" 1],[]⟩,⟨335,fG 78,"regular_twin",.none,(.str "kindkeep.types" 762),334,[aG "tab" 0,aG "t" 1,aG "row" 2],[]⟩,⟨342,fG 79,"join_bools",.none,(.str "kindkeep.types" 762),341,[aG "got" 0],[]⟩,⟨349,fG 80,"stays_beside",.none,(.str "kindkeep.types" 762),348,[aG "tab" 0,aG "got" 1,aG "t" 2],[]⟩,⟨356,fG 81,"top_of",.none,(.str "kindkeep.types" 762),355,[aG "got" 0,aG "t" 1],[]⟩,⟨361,fG 82,"union",.none,(.str "kindkeep.types" 762),360,[aG "tab" 0,aG "parts" 1,aG "got" 2,aG "t" 3,aG "part" 4,aG "top" 5,aG "kept" 6],[]⟩,⟨368,fG 83,"is_literal",.none,(.str "kindkeep.types" 762),367,[aG "tab" 0,aG "t" 1],[]⟩,⟨375,fG 84,"is_unit",.none,(.str "kindkeep.types" 762),374,[aG "tab" 0,aG "t" 1],[]⟩,⟨382,fG 85,"is_fresh",.none,(.str "kindkeep.types" 762),381,[aG "tab" 0,aG "t" 1,aG "row" 2],[]⟩,⟨389,fG 86,"regular_one",.none,(.str "kindkeep.types" 762),388,[aG "tab" 0,aG "t" 1],[]⟩,⟨394,fG 87,"regular",.none,(.str "kindkeep.types" 762),393,[aG "tab" 0,aG "t" 1],[]⟩,⟨406,fG 89,"whole_of",.none,(.str "kindkeep.types" 762),405,[aG "tab" 0,aG "t" 1,aG "row" 2,aG "whole" 3],[]⟩,⟨430,fG 93,"family",.none,(.str "kindkeep.types" 762),429,[aG "tab" 0,aG "t" 1,aG "row" 2,aG "kind" 3,aG "whole" 4],[]⟩,⟨444,d8 99 0,"Graph.__init__",.none,(.str "kindkeep.flow" 1128),443,[aG "self" 0],[]⟩,⟨451,d8 99 1,"Graph.make",.none,(.str "kindkeep.flow" 1128),450,[aG "self" 0,aG "kind" 1,aG "prevs" 2,aG "node" 3,aG "extra" 4],[]⟩,⟨472,d8 100 0,"Stops.__init__",.none,(.str "kindkeep.flow" 1128),471,[aG "self" 0,aG "never" 1,aG "full" 2],[]⟩,⟨479,d8 100 1,"Stops.ends",.none,(.str "kindkeep.flow" 1128),478,[aG "self" 0,aG "node" 1],[]⟩,⟨500,fG 101,"blocked",.none,(.str "kindkeep.flow" 1128),499,[aG "graph" 0,aG "number" 1,aG "stops" 2,aG "kind" 3,aG "low" 4,aG "high" 5],[]⟩,⟨507,fG 102,"reaches",.none,(.str "kindkeep.flow" 1128),506,[aG "graph" 0,aG "flow" 1,aG "stops" 2,aG "seen" 3,aG "stack" 4,aG "number" 5,aG "prev" 6],[]⟩]
def VZ:List FI:=[⟨514,fG 104,"widen_one",.none,(.str "kindkeep.typeops" 1264),513,[aG "tab" 0,aG "t" 1],[]⟩,⟨519,fG 105,"widen_literal",.none,(.str "kindkeep.typeops" 1264),518,[aG "tab" 0,aG "t" 1],[]⟩,⟨526,fG 108,"unfresh",.none,(.str "kindkeep.cslots" 1280),525,[aG "tab" 0,aG "t" 1],[]⟩,⟨533,fG 109,"stored_kind",.none,(.str "kindkeep.cslots" 1280),532,[aG "tab" 0,aG "t" 1,aG "done" 2,aG "deep" 3],[]⟩,⟨538,fG 110,"stored_row",.none,(.str "kindkeep.cslots" 1280),537,[aG "tab" 0,aG "t" 1,aG "row" 2,aG "done" 3,aG "deep" 4,aG "props" 5,aG "prop" 6,aG "held" 7,aG "elems" 8],[]⟩,⟨545,fG 111,"literal_in",.none,(.str "kindkeep.cslots" 1280),544,[aG "cx" 0,aG "t" 1,aG "want" 2,aG "part" 3,aG "kind" 4],[]⟩,⟨566,fG 114,"slot_kind",.none,(.str "kindkeep.cslots" 1280),565,[aG "cx" 0,aG "t" 1,aG "want" 2,aG "out" 3,aG "part" 4,aG "kept" 5],[]⟩,⟨580,d8 116 0,"Frame.__init__",.none,(.str "kindkeep.cfuncs" 1352),579,[aG "self" 0,aG "wanted" 1,aG "written" 2],[]⟩,⟨594,fG 117,"returns_in",.none,(.str "kindkeep.cfuncs" 1352),593,[aG "body" 0,aG "out" 1,aG "waiting" 2,aG "node" 3,aG "kid" 4],[]⟩,⟨601,fG 118,"end_reached",.none,(.str "kindkeep.cfuncs" 1352),600,[aG "cx" 0,aG "node" 1,aG "stops" 2],[]⟩,⟨608,fG 119,"told_returns",.none,(.str "kindkeep.cfuncs" 1352),607,[aG "cx" 0,aG "node" 1,aG "hint" 2,aG "kinds" 3,aG "blank" 4,aG "one" 5],[]⟩,⟨615,fG 120,"settled_return",.none,(.str "kindkeep.cfuncs" 1352),614,[aG "cx" 0,aG "t" 1,aG "hint" 2],[]⟩,⟨622,fG 121,"block_return",.none,(.str "kindkeep.cfuncs" 1352),621,[aG "cx" 0,aG "node" 1,aG "hint" 2,aG "kinds" 3,aG "blank" 4],[]⟩,⟨629,fG 122,"hinted_return",.none,(.str "kindkeep.cfuncs" 1352),628,[aG "cx" 0,aG "node" 1,aG "sig" 2,aG "hint" 3],[]⟩,⟨636,fG 123,"missing_return",.none,(.str "kindkeep.cfuncs" 1352),635,[aG "cx" 0,aG "node" 1,aG "frame" 2,aG "spot" 3,aG "wanted" 4],[]⟩,⟨643,fG 124,"check_body",.none,(.str "kindkeep.cfuncs" 1352),642,[aG "cx" 0,aG "node" 1,aG "frame" 2,aG "body" 3,aG "t" 4],[]⟩,⟨648,fG 125,"run_body",.none,(.str "kindkeep.cfuncs" 1352),647,[aG "cx" 0,aG "node" 1,aG "frame" 2,aG "inside" 3,aG "chains" 4],[]⟩,⟨669,d8 130 0,"Thin.__init__",.none,(.str "kindkeep.hosts" 1486),668,[aG "self" 0,aG "tab" 1],[]⟩,⟨676,d8 130 1,"Thin.force",.none,(.str "kindkeep.hosts" 1486),675,[aG "self" 0,aG "t" 1],[]⟩,⟨872,d8 135 0,"Roads.__init__",.none,(.str "kindkeep.ccore" 1678),871,[aG "self" 0],[]⟩,⟨900,d8 136 0,"Judge.__init__",.none,(.str "kindkeep.ccore" 1678),899,[aG "self" 0],[]⟩,⟨921,d8 136 3,"Judge.excess",.none,(.str "kindkeep.ccore" 1678),920,[aG "self" 0,aG "cx" 1,aG "s" 2,aG "t" 3],[]⟩,⟨942,d8 136 6,"Judge.reduced",.none,(.str "kindkeep.ccore" 1678),941,[aG "self" 0,aG "cx" 1,aG "node" 2,aG "parts" 3],[]⟩,⟨956,d8 136 8,"Judge.words",.none,(.str "kindkeep.ccore" 1678),955,[aG "self" 0,aG "cx" 1,aG "t" 2],[]⟩,⟨963,d8 136 9,"Judge.explain",.none,(.str "kindkeep.ccore" 1678),962,[aG "self" 0,aG "cx" 1,aG "node" 2,aG "s" 3,aG "t" 4,aG "at" 5,aG "number" 6],[]⟩,⟨984,d8 137 0,"PlainJudge.fits",.none,(.str "kindkeep.ccore" 1678),983,[aG "self" 0,aG "cx" 1,aG "s" 2,aG "t" 3],[]⟩,⟨1017,fG 138,"plain_part",.none,(.str "kindkeep.ccore" 1678),1016,[aG "tab" 0,aG "s" 1,aG "t" 2],[]⟩,⟨1024,fG 139,"ccore_plain_fits",.none,(.str "kindkeep.ccore" 1678),1023,[aG "tab" 0,aG "s" 1,aG "t" 2,aG "codes" 3,aG "part" 4,aG "held" 5,aG "other" 6],[]⟩,⟨1143,d8 144 0,"Sheet.__init__",.none,(.str "kindkeep.ccore" 1678),1142,[aG "self" 0,aG "tab" 1,aG "host" 2,aG "bound" 3,aG "graph" 4,aG "namer" 5,aG "diags" 6,aG "notes" 7],[]⟩,⟨1150,d8 144 1,"Sheet.expr",.none,(.str "kindkeep.ccore" 1678),1149,[aG "self" 0,aG "node" 1,aG "want" 2],[]⟩,⟨1157,d8 144 2,"Sheet.stmt",.none,(.str "kindkeep.ccore" 1678),1156,[aG "self" 0,aG "node" 1],[]⟩]
def VY:List FI:=[⟨1178,d8 144 5,"Sheet.wants",.none,(.str "kindkeep.ccore" 1678),1177,[aG "self" 0,aG "s" 1,aG "t" 2,aG "at" 3,aG "number" 4],[]⟩,⟨1185,d8 144 6,"Sheet.fits",.none,(.str "kindkeep.ccore" 1678),1184,[aG "self" 0,aG "node" 1,aG "s" 2,aG "t" 3,aG "at" 4,aG "number" 5],[]⟩,⟨1206,d8 144 9,"Sheet.fault",.none,(.str "kindkeep.ccore" 1678),1205,[aG "self" 0,aG "number" 1,aG "node" 2,aG "args" 3],[]⟩,⟨1213,d8 144 10,"Sheet.tell",.none,(.str "kindkeep.ccore" 1678),1212,[aG "self" 0,aG "number" 1,aG "at" 2,aG "args" 3,aG "diag" 4],[]⟩,⟨1220,d8 144 11,"Sheet.words",.none,(.str "kindkeep.ccore" 1678),1219,[aG "self" 0,aG "t" 1],[]⟩,⟨1318,fG 145,"expr_kind",.none,(.str "kindkeep.ccore" 1678),1317,[aG "cx" 0,aG "node" 1,aG "want" 2,aG "t" 3],[]⟩,⟨1325,fG 146,"check_stmt",.none,(.str "kindkeep.ccore" 1678),1324,[aG "cx" 0,aG "node" 1,aG "start" 2],[]⟩,⟨1349,fG 150,"want_fit",.none,(.str "kindkeep.ccore" 1678),1348,[aG "cx" 0,aG "node" 1,aG "s" 2,aG "t" 3,aG "at" 4,aG "number" 5,aG "fits" 6,aG "codes" 7,aG "code" 8],[]⟩,⟨1363,d8 152 0,"NothingRule.check",.none,(.str "kindkeep.cstmt" 2506),1362,[aG "self" 0,aG "cx" 1,aG "node" 2],[]⟩,⟨1375,fG 153,"blank_return",.none,(.str "kindkeep.cstmt" 2506),1374,[aG "cx" 0,aG "node" 1,aG "frame" 2],[]⟩,⟨1389,d8 154 0,"ReturnRule.check",.none,(.str "kindkeep.cstmt" 2506),1388,[aG "self" 0,aG "cx" 1,aG "node" 2,aG "value" 3,aG "frame" 4,aG "t" 5],[]⟩,⟨1401,fG 174,"_law_wholes",.none,(.str "law_rh0144_01" 2570),1400,[],[]⟩,⟨1409,fG 175,"_law_node",(.ref 1402),(.str "law_rh0144_01" 2570),1408,[aG "kind" 0,aG "a" 1,aG "kids" 2,aG "at" 3,aG "flags" 4],[.int 0 2614]⟩,⟨1414,fG 176,"_law_number",.none,(.str "law_rh0144_01" 2570),1413,[aG "root" 0,aG "waiting" 1,aG "count" 2,aG "node" 3],[]⟩,⟨1421,fG 177,"_law_take",.none,(.str "law_rh0144_01" 2570),1420,[aG "d" 0,aG "n" 1,aG "at" 2],[]⟩,⟨1428,fG 178,"_law_values",.none,(.str "law_rh0144_01" 2570),1427,[aG "tab" 0,aG "one" 1,aG "box" 2,aG "rows" 3],[]⟩,⟨1435,fG 179,"_law_seen",.none,(.str "law_rh0144_01" 2570),1434,[aG "tab" 0,aG "one" 1,aG "seen" 2,aG "kind" 3,aG "mask" 4],[]⟩,⟨1442,fG 180,"_law_hints",.none,(.str "law_rh0144_01" 2570),1441,[aG "tab" 0,aG "some" 1,aG "two" 2],[]⟩,⟨1449,fG 181,"_law_written",.none,(.str "law_rh0144_01" 2570),1448,[aG "tab" 0,aG "rows" 1],[]⟩,⟨1456,fG 182,"_law_block",.none,(.str "law_rh0144_01" 2570),1455,[aG "d" 0,aG "w" 1,aG "deep" 2,aG "looped" 3,aG "least" 4,aG "kids" 5,aG "go" 6],[]⟩,⟨1463,fG 183,"_law_stmt",.none,(.str "law_rh0144_01" 2570),1462,[aG "d" 0,aG "w" 1,aG "deep" 2,aG "looped" 3,aG "x" 4,aG "how" 5,aG "at" 6,aG "value" 7,aG "node" 8,aG "deeds" 9,aG "word" 10,aG "sure" 11,aG "ask" 12,aG "yes" 13],[]⟩,⟨1468,fG 184,"_law_join",.none,(.str "law_rh0144_01" 2570),1467,[aG "graph" 0,aG "flows" 1,aG "live" 2],[]⟩,⟨1475,fG 185,"_law_flow",.none,(.str "law_rh0144_01" 2570),1474,[aG "graph" 0,aG "node" 1,aG "now" 2,aG "outs" 3,aG "kid" 4,aG "ask" 5,aG "yes" 6,aG "no" 7,aG "mine" 8],[]⟩,⟨1482,fG 186,"_law_out",.none,(.str "law_rh0144_01" 2570),1481,[aG "node" 0,aG "told" 1,aG "bits" 2,aG "kid" 3,aG "ask" 4],[]⟩,⟨1487,fG 187,"_law_settled",.none,(.str "law_rh0144_01" 2570),1486,[aG "rows" 0,aG "blank" 1,aG "wish" 2,aG "kinds" 3,aG "total" 4,aG "kind" 5,aG "mask" 6,aG "fresh" 7,aG "plain" 8],[]⟩,⟨1494,fG 188,"_law_goes",.none,(.str "law_rh0144_01" 2570),1493,[aG "row" 0,aG "want" 1],[]⟩,⟨1501,fG 189,"_law_faults",.none,(.str "law_rh0144_01" 2570),1500,[aG "rows" 0,aG "want" 1,aG "sort" 2,aG "written" 3,aG "at_end" 4,aG "faults" 5,aG "notes" 6,aG "void" 7,aG "node" 8,aG "row" 9,aG "at" 10],[]⟩,⟨1506,fG 190,"_law_sheet",.none,(.str "law_rh0144_01" 2570),1505,[aG "tab" 0,aG "body" 1,aG "func" 2,aG "how" 3,aG "graph" 4,aG "cx" 5,aG "never" 6,aG "start" 7,aG "waiting" 8,aG "node" 9],[]⟩,⟨1511,fG 191,"law",.none,(.str "law_rh0144_01" 2570),1510,[aG "script" 0,aG "d" 1,aG "tab" 2,aG "how" 3,aG "sort" 4,aG "written" 5,aG "stops" 6,aG "wish" 7,aG "want" 8,aG "values" 9,aG "w" 10,aG "body" 11,aG "flags" 12,aG "kids" 13,aG "func" 14,aG "graph" 15,aG "cx" 16,aG "rows" 17,aG "node" 18,aG "place" 19,aG "at_end" 20,aG "valued" 21,aG "blank" 22,aG "wanted" 23,aG "found" 24,aG "seen" 25,aG "mask" 26,aG "one" 27,aG "frame" 28,aG "row" 29,aG "faults" 30,aG "notes" 31,aG "told" 32],[]⟩]
def Jv:List FI:=V0++VZ++VY
def EM(f:Nat):Option FI:=Jv[f]?
def oH:S5:=Jv.map FI.a++[704,718,816,907,1052,1073,1122,1269]
def ax:aab:=Jv.map FI.q
def NL:Jd:= {c:=λf=>ax.getD f "",d:=λc=>bj.getD c "",e:=λk=>SJ.getD k "",a:=λn=>iA.getD n "",b:=λf=>CH.getD f false}

section
def Ai(K:Kn)(h:Heap):Prop:=∀a o,gG a K=some o->h.get? a=alive o\/alive o=none
theorem Ai.at {K:Kn}{h:Heap}(x:Ai K h){a:Nat}{o o':Obj}(e:gG a K=some o)(al:alive o=some o'):h.get? a=some o':=by
 rcases x a o e with q|q
 .rw[q,al]
 .rw[q]at al;exact nn al
theorem kX{a b:Nat}(h:Nat.beq a b=true):a=b:=bM h
theorem Gc{α β:Type}{o:Option α}{f:α->Option β}{b:β}{P:Prop}(e:o.bind f=some b)(k:∀a,o=some a->f a=some b->P):P:=let⟨a,e1,e2⟩:=fC e;k a e1 e2
def Dw(K:Kn)(a:Nat):Option (WA×Nat×Obj):=(gG a K).bind λo=>match o.data with
 |.seq items n=>some (items,n,o)
 |_=>none
theorem Ba{K:Kn}{a:Nat}{items:WA}{n:Nat}{o:Obj}(h:Dw K a=some (items,n,o)):o.data=.seq items n/\∀{H:Heap},Ai K H->H.get? a=some o:=
 Gc h λo' e h=>by
  obtain⟨c,d,dt,sl⟩:=o'
  induction dt with
  |seq items n=>cases h;exact⟨rfl,λhK=>hK.at e rfl⟩
  |_=>exact nn h
noncomputable def Df:Value->Bool
 |.type t=>t=="tuple"
 |_=>false
theorem HY{v:Value}(h:Df v=true):v=.type "tuple":=by
 induction v with
 |type t=>rw[eq_of_beq (show(t=="tuple")=true from h)]
 |_=>exact ft h
def VK(K:Kn)(v:PV)(u:Value):Prop:=∀{C:dX},Ai K C.b->C.i=247->VR C W0 C.b v u
def Zc(K:Kn)(v:S3)(u:S9):Prop:=∀{C:dX},Ai K C.b->C.i=247->bR C W0 C.b v u
theorem VK.bx'{K:Kn}{vs:S3}{a:Nat}{items:WA}{n:Nat}{o:Obj}(h:Dw K a=some (items,n,o))(h1:Df o.cls=true)(h2:o.dict.isNone=true)(h3:o.slots.toList.isEmpty=true)(h4:Nat.ble items.toList.length 100000=true)(h5:Nat.beq n 0=true)(x:Zc K vs items.toList):VK K (.f vs) (.ref a):=λhK hf=>by obtain⟨e1,e2⟩:=Ba h;refine⟨a,items,0,rfl,⟨rfl,(e2 hK).trans (congrArg some ?_)⟩,x hK hf,fy h4⟩;obtain⟨c,d,dt,sl⟩:=o;rw[show c=.type "tuple" from HY h1,show d=none from kG.mp h2,show dt=.seq items n from e1,show sl= #[]from Array.toList_inj.mp (nJ.mp h3),kX h5]
noncomputable def R8(u:Value):Bool:=match u with
 |.none=>true
 |_=>false
noncomputable def R9(u:Value):V8:=match u with
 |.bool b=>some b
 |_=>none
noncomputable def XO(u:Value):Option (Int×Nat):=match u with
 |.int i t=>some (i,t)
 |_=>none
noncomputable def XN(u:Value):Option (Str×Nat):=match u with
 |.str i t=>some (i,t)
 |_=>none
noncomputable def T3(u:Value):aap:=match u with
 |.ref a=>some a
 |_=>none
theorem KU{u:Value}(h:R8 u=true):u=.none:=by
 induction u with
 |none=>rfl
 |_=>exact ft h
theorem KW{u:Value}{b:Bool}(h:R9 u=some b):u=.bool b:=by
 induction u with
 |bool=>obtain rfl:=si h;rfl
 |_=>exact nn h
theorem PX{u:Value}{b:Int×Nat}(h:XO u=some b):u=.int b.1 b.2:=by
 induction u with
 |int=>obtain rfl:=si h;rfl
 |_=>exact nn h
theorem PU{u:Value}{b:Str×Nat}(h:XN u=some b):u=.str b.1 b.2:=by
 induction u with
 |str=>obtain rfl:=si h;rfl
 |_=>exact nn h
theorem FA{u:Value}{a:Nat}(h:T3 u=some a):u=.ref a:=by
 induction u with
 |ref=>obtain rfl:=si h;rfl
 |_=>exact nn h
section
variable (K:Kn)
def ckV:∀v u,Ck (VK K v u):=PV.rec (motive_1:=λv=>∀u,Ck (VK K v u)) (motive_2:=λvs=>∀us,Ck (Zc K vs us))
 (λu=>.I (R8 u) λh=>.e λJ J=>KU h)
 (λb u=>.O (R9 u) λc h=>.I (c==b) λe=>.e λJ J=>(KW h).trans (congrArg _ (eq_of_beq e)))
 (λi u=>.O (XO u) λc h=>.I (c.1==i) λe=>.e λJ J=>⟨c.2,(PX h).trans (congrArg (Value.int · c.2) (eq_of_beq e))⟩)
 (λi u=>.O (XN u) λc h=>.I (gP c.1 i) λe=>.e λJ J=>⟨c.2,(PU h).trans (congrArg (Value.str · c.2) (dW.mp e))⟩)
 (λvs ih u=>.O (T3 u) λa ha=>.O (Dw K a) λp h=>.I (Df p.2.2.cls) λh1=>.I p.2.2.dict.isNone λh2=>.I p.2.2.slots.toList.isEmpty λh3=>.I (Nat.ble p.1.toList.length 100000) λh4=>.I (Nat.beq p.2.1 0) λh5=>(ih p.1.toList).J λx=>.e (FA ha▸VK.bx' h h1 h2 h3 h4 h5 x))
 (λJ J J=>.d) (λJ J J J J=>.d) (λJ J J J=>.d) (λJ J J J=>.d) (λJ J=>.d)
 (λi u=>.O (T3 u) λa ha=>.I (Nat.beq i 0) λh1=>.I (Nat.beq a 247) λh2=>.e λJ hf=>⟨kX h1,(FA ha).trans (by rw[hf,kX h2])⟩)
 (λJ J=>.d)
 (λus=>l0 us (.e λJ J=>rfl))
 (λv vs AU wY us=>Cy us λu us=>(AU u).J λx=>(wY us).J λy=>.e λa b=>⟨u,us,rfl,x a b,y a b⟩)
def Fm:∀(vs:S3) us,Ck (Zc K vs us):=List.rec (λus=>l0 us (.e λJ J=>rfl)) λv vs ih us=>Cy us λu us=>(ckV K v u).J λx=>(ih us).J λy=>.e λa b=>⟨u,us,rfl,x a b,y a b⟩
end
def Jw(K:Kn):Value->Option (S9)
 |.none=>some []
 |.ref T=>(Dw K T).map λp=>p.1.toList
 |_=>none
theorem Mx{K:Kn}{v:Value}{eZ:S9}{h:Heap}(hK:Ai K h)(e:Jw K v=some eZ):(v=.none/\eZ=[])\/∃T o n,v=.ref T/\h.get? T=some o/\o.data=.seq eZ.toArray n:=by
 induction v with
 |none=>obtain rfl:=si e;exact .inl ⟨rfl,rfl⟩
 |ref T=>obtain⟨p,hp,rfl⟩:=aC.mp e;obtain⟨a,b⟩:=Ba hp;exact .inr ⟨T,p.2.2,p.2.1,rfl,b hK,a⟩
 |_=>exact nn e
abbrev FI.I(x:FI):FuncData:=Oo x.b x.q x.d x.m (.ref x.c)
noncomputable def iP(fd:FuncData):aab:=fd.params.args.map (·.arg)
noncomputable def yP(s:Scope):Bool:=match s.kind with
 |.function=>true
 |_=>false
theorem HZ{s:Scope}(h:yP s=true):s.kind=.function:=by
 unfold yP at h
 induction q:s.kind<;>rw[q]at h<;>first|rfl|exact ft h
noncomputable def uW(fd:FuncData):Bool:=match fd.body with
 |.stmts _=>true
 |_=>false
theorem EK{fd:FuncData}(h:uW fd=true):fd.body=.stmts (rB fd):=by
 unfold uW at h
 unfold rB
 induction q:fd.body<;>rw[q]at h<;>first|rfl|exact ft h
def Se(np:Nat)(names:aab)(sl:Sl):Bool:=sl.all λp=> !Nat.blt p.2 np||(match names[p.2]? with|some x=>gP x p.1|none=>false)
def DR(D:S6)(fd:FuncData):Bool:=match fd.code with
 |.ref a=>D.any λp=>Nat.beq p.1 a&&gP p.2 fd.qualname
 |_=>false
theorem MA{D:S6}{fd:FuncData}(h:DR D fd=true):∃p∈D,fd.code=.ref p.1/\fd.qualname=p.2:=by
 unfold DR at h
 induction q:fd.code<;>rw[q]at h<;>try cases h
 obtain⟨p,hp,hq⟩:=cI.mp h;obtain⟨h1,h2⟩:=ak.mp hq;exact⟨p,hp,by rw[kX h1],(dW.mp h2).symm⟩
structure Yr(K:Kn)(D:S6)(mf:bH)(fd:FuncData)(sl:Sl)(eZ:S9):Prop where
 p:Jw K fd.defaults=some eZ
 t:uW fd=true
 q:fd.closure.isEmpty=true
 o:Nat.beq fd.globals mainGlobals=true
 s:Nat.beq fd.builtins builtinsNs=true
 j:fd.params.posonlyargs.isEmpty=true
 i:fd.params.kwonlyargs.isEmpty=true
 h:fd.params.vararg.isNone=true
 g:fd.params.kwarg.isNone=true
 f:yP fd.scope=true
 e:(!fd.scope.isCoroutine)=true
 d:(!fd.scope.isGenerator)=true
 m:yK (sl.map (·.2))=true
 l:vC (iP fd)=true
 k:Nat.beq (iP fd).length mf.a=true
 c:Se mf.a (iP fd) sl=true
 b:(iP fd).all (vH fd.scope.names)=true
 n:Nat.ble eZ.length (iP fd).length=true
 r:DR D fd=true
 a:Zc K mf.b eZ
def ckF(K:Kn)(D:S6)(mf:bH)(fd:FuncData)(sl:Sl):Ck (∃eZ,Yr K D mf fd sl eZ):=
 .O (Jw K fd.defaults) λeZ du=>.I (uW fd) λbo=>.I fd.closure.isEmpty λcl=>.I (Nat.beq fd.globals mainGlobals) λgl=>.I (Nat.beq fd.builtins builtinsNs) λbt=>.I fd.params.posonlyargs.isEmpty λp1=>.I fd.params.kwonlyargs.isEmpty λp2=>
  .I fd.params.vararg.isNone λp3=>.I fd.params.kwarg.isNone λp4=>.I (yP fd.scope) λs1=>.I (!fd.scope.isCoroutine) λs2=>.I (!fd.scope.isGenerator) λs3=>.I (yK (sl.map (·.2))) λn1=>.I (vC (iP fd)) λn2=>.I (Nat.beq (iP fd).length mf.a) λn3=>
  .I (Se mf.a (iP fd) sl) λsb=>.I ((iP fd).all (vH fd.scope.names)) λvk=>.I (Nat.ble eZ.length (iP fd).length) λle=>.I (DR D fd) λcd=>(Fm K mf.b eZ).J λvs=>.e ⟨eZ,du,bo,cl,gl,bt,p1,p2,p3,p4,s1,s2,s3,n1,n2,n3,sb,vk,le,cd,vs⟩
def KF(P:Params):Kn:=uj P++lw P
def tC(K:Kn)(f:Nat):Bool:=match jL[f]?,EM f with
 |some mf,some x=>(ckF K qr mf x.I x.e).V
 |_,_=>false
def qs{K:Kt}(H:Hy K)(f:Nat):Bool:=match jL[f]?,EM f with
 |some mf,some x=>(Yn H mf.d x.I.scope.names x.e true (rB x.I)).V
 |_,_=>false
def EL(f:Nat):Nat×Obj:=match EM f with
 |some x=>(x.a,I6 x.b x.q x.d x.m (.ref x.c))
 |none=>(0,default)
theorem aw(P:Params):(List.range' 0 20).all (tC (KF P))=true:=by kernel_rfl
theorem am(P:Params):(List.range' 20 20).all (tC (KF P))=true:=by kernel_rfl
theorem ad(P:Params):(List.range' 40 20).all (tC (KF P))=true:=by kernel_rfl
theorem ac(P:Params):(List.range' 60 20).all (tC (KF P))=true:=by kernel_rfl
theorem ab(P:Params):(List.range' 80 11).all (tC (KF P))=true:=by kernel_rfl
section
variable{C:dX}{cl:CL}{n:Nat}(H:Hy ⟨C,NL,cl,n⟩)
theorem Wx:(List.range' 0 20).all (qs H)=true:=by kernel_rfl
theorem Ww:(List.range' 20 20).all (qs H)=true:=by kernel_rfl
theorem Wv:(List.range' 40 20).all (qs H)=true:=by kernel_rfl
theorem Wu:(List.range' 60 20).all (qs H)=true:=by kernel_rfl
theorem Wt:(List.range' 80 11).all (qs H)=true:=by kernel_rfl
end
theorem Q7(P:Params):(List.range 91).map (λf=>gG (EL f).1 (KF P))=(List.range 91).map (λf=>some (EL f).2):=by kernel_rfl
theorem VV:(List.range 91).all (λf=>Nat.beq (EL f).1 (oH.getD f 0))=true:=by kernel_rfl
end

def AD(P:Params):List Kn:=[F3 P,F8 P,F9 P,F10 P,F14 P,F18 P,F19 P,F22 P,F25 P,Zg P++Zh P,F28 P,F29 P,px P++py P,px P++py P,F33 P,F34 P,F35 P,F36 P,F37 P,F39 P++Zg P++Zh P,Zg P++Zh P]
def EJ(P:Params)(c:Nat):Kn:=(AD P).getD c []
noncomputable def NT:Option (V9)->Bool
 |some none=>true
 |_=>false
noncomputable def Um(a:Nat):Option (V9)->Bool
 |some (some (.ref b))=>Nat.beq a b
 |_=>false
noncomputable def Un(n:String):Option (V9)->Bool
 |some (some (.builtin m))=>n==m
 |_=>false
noncomputable def Dh:V9->Bool
 |some (.type t)=>t=="function"
 |_=>false
theorem Gf{x:Option (V9)}(h:NT x=true):x=some none:=by
 obtain _|_|v:=x
 .exact ft h
 .rfl
 .exact ft h
theorem Ge{a:Nat}{x:Option (V9)}(h:Um a x=true):x=some (some (.ref a)):=by
 induction x with
 |none=>exact ft h
 |some x=>induction x with
  |none=>exact ft h
  |some v=>induction v with
   |ref b=>exact congrArg (λb=>some (some (Value.ref b))) (bM h).symm
   |_=>exact ft h
theorem Gg{n:String}{x:Option (V9)}(h:Un n x=true):x=some (some (.builtin n)):=by
 induction x with
 |none=>exact ft h
 |some x=>induction x with
  |none=>exact ft h
  |some v=>induction v with
   |builtin b=>exact congrArg (λb=>some (some (Value.builtin b))) (eq_of_beq (show(n==b)=true from h)).symm
   |_=>exact ft h
theorem yp{x:V9}(h:Dh x=true):x=some (.type "function"):=by
 induction x with
 |none=>exact ft h
 |some v=>induction v with
  |type b=>exact congrArg (λb=>some (Value.type b)) (eq_of_beq (show(b=="function")=true from h))
  |_=>exact ft h
noncomputable def DF(n:Nat):aaw->aap
 |[]=>none
 |(m,f)::r=>match Nat.beq n m with
  |true=>some f
  |false=>DF n r
theorem vZ(n:Nat):∀l:aaw,DF n l=l.lookup n
 |[]=>rfl
 |(m,f)::r=>by
  rw[dJ];show(match Nat.beq n m with|true=>some f|false=>DF n r)=_
  rw[BT.beq_eq,vZ n r];by_cases h:n=m
  .subst h;simp
  .rw[beq_eq_false_iff_ne.mpr h];simp[h]
noncomputable def CM(K:Frag)(ca:Nat):S9:=match clsIn K ca with
 |some cd=>cd.mro.dropLast
 |none=>[]
noncomputable def CZ(K:Frag)(ca:Nat):Bool:=match clsIn K ca with
 |some cd=>(match cd.mro.getLast? with|some (.type t)=>t=="object"|_=>false)
 |none=>false
def JA(K:Frag)(ca:Nat)(ms:aaw)(n:Nat):Bool:=match DF n ms with
 |some f=>Nat.blt n 116&&Um (oH.getD f 0) (findIn K (.ref ca) (iA.getD n ""))&&Dh (typeIn K (.ref (oH.getD f 0)))
 |none=>(CM K ca).all λv=>NT (ownIn K (iA.getD n "") v)
def Sz(K:Frag)(ca:Nat):aap->Bool
 |some f=>Um (oH.getD f 0) (findIn K (.ref ca) "__init__")&&Dh (typeIn K (.ref (oH.getD f 0)))
 |none=>Un "object.__init__" (findIn K (.ref ca) "__init__")
def Ym(K:Frag)(ca:Nat)(k:iJ):Bool:=
 plainGet K ca (iA.getD 0 "")&&hasDictIn K ca&&plainOver K ca&&Un "object.__setattr__" (findIn K (.ref ca) "__setattr__")&&CZ K ca&&(List.range 116).all (JA K ca k.b)&&k.b.all (λp=>Nat.blt p.1 116)&&
 makesIn K ca&&keepIn K (.ref ca)&&Sz K ca k.a&&(k.a.isSome||k.c.isEmpty)
def Jx(P:Params)(c:Nat):Bool:=match gX c with
 |some k=>Ym (EJ P c) (DS.getD c 0) k
 |none=>true
theorem Ly:iA.all (λn=>NT (some (fastBuiltinOwn "object" n)))=true:=by kernel_rfl
theorem yC{K:Frag}{n:Str}:∀{l r:S9},(∀v∈l,ownIn K n v=some none)->alongIn K n (l++r)=alongIn K n r
 |[],_,_=>rfl
 |v::l,r,h=>by
  rw[iM];show(match ownIn K n v with|some (some v)=>some (some v)|some none=>alongIn K n (l++r)|none=>none)=_
  rw[h v aj];exact yC λw hw=>h w (af _ hw)
theorem MC{K:Frag}{ca:Nat}{cd:ClassData}(h:clsIn K ca=some cd):∃a b d,K.lookup ca=some ⟨a,b,.cls cd,d⟩:=by
 unfold clsIn at h
 generalize K.lookup ca=o at h⊢
 obtain _|⟨a,b,d,e⟩:=o
 .exact nn h
 .induction d with
  |cls c=>obtain rfl:=si h;exact⟨_,_,_,rfl⟩
  |_=>exact nn h
theorem H6{K:Frag}{ca n:Nat}(h1:CZ K ca=true)(h2:∀v∈CM K ca,NT (ownIn K (iA.getD n "") v)=true)(hn:n<116):findIn K (.ref ca) (iA.getD n "")=some none:=by
 unfold CZ at h1
 unfold CM at h2
 split at h1
 .rename_i cd hc;rw[hc]at h2
  obtain⟨a,b,d,ho⟩:=MC hc;unfold findIn
  .dsimp only;rw[ho]
   induction ht:cd.mro.getLast? with
   |none=>rw[ht]at h1;exact ft h1
   |some v=>
    rw[ht]at h1
    induction v with
    |type t=>
     have:cd.mro=cd.mro.dropLast++[.type t]:=by obtain⟨ys,hy⟩:=List.getLast?_eq_some_iff.mp ht;rw[hy];simp
     dsimp only;rw[this,yC λv hv=>Gf (h2 v hv)]
     have z:t="object":=eq_of_beq h1;subst z;unfold alongIn;show(match some (fastBuiltinOwn "object" (iA.getD n ""))with|some (some v)=>some (some v)|some none=>alongIn K (iA.getD n "") []|none=>none)=some none
     have hm:iA.getD n ""∈iA:=by
      rw[gA];have hl:iA.length=116:=by rfl
      rw[b7 (by exact fh ja jb [.b ja (.n 116),.e jb (.n 116)] rfl hn hl)]
      exact List.getElem_mem _
     rw[Gf (aJ.mp Ly _ hm)];rfl
    |_=>exact ft h1
 .exact ft h1
theorem Wn(P:Params):(List.range 21).all (Jx P)=true:=by kernel_rfl
theorem VJ(P:Params):(AD P).flatten.map (λp=>(gG p.1 (KF P)).bind alive)=(AD P).flatten.map (λp=>some p.2):=by kernel_rfl

theorem HV{names:Nm}{n:Str}(h:vH names n=true):names.lookup n=some .local\/names.lookup n=some .cell:=by
 unfold vH at h
 rw[kh]at h
 exact(AM h).imp eq_of_beq eq_of_beq
theorem Mj{st:Stmt}{q:Str}{d m c:Value}:(I6 st q d m c).data=.func (Oo st q d m c):=rfl
theorem Mf{C:dX}{K:Kn}{D:S6}{f:Nat}{mf:bH}{fd:FuncData}{o:Obj}{sl:Sl}{eZ:S9}(hK:Ai K C.b)(hf:C.i=247)(hD:∀p∈D,C.b.CodeRec (.ref p.1) p.2)(hn:C.b.NoLimit)
  (ha:C.b.get? (C.e f)=some o)(hd:o.data=.func fd)(X:Yr K D mf fd sl eZ)(hb:∀{cl:CL}{n:Nat}(H:Hy ⟨C,NL,cl,n⟩),(Yn H mf.d fd.scope.names sl true (rB fd)).V=true):AO C NL f mf o fd (rB fd) sl (iP fd) eZ:=by
 have nl:=kX X.k;have nd:=qQ X.l;obtain⟨p,hp,c1,c2⟩:=MA X.r;refine⟨ha,hd,EK X.t,nJ.mp X.q,kX X.o,kX X.s,HZ X.f,by simpa using X.e,by simpa using X.d,by rw[c1,c2];exact hD p hp,hn,wz X.m,nd,nl,λn i e hi=>?_,λn hm=>HV (aJ.mp X.b n hm),λH=>Ck.of (hb H),X.a hK hf,λs us keep l1 l2=>?_⟩
 .have:=aJ.mp X.c _ (mem_of_lookup e);dsimp only at this
  rw[show Nat.blt i mf.a=true from Nat.ble_eq_true_of_le hi]at this
  induction q:(iP fd)[i]? with
  |none=>rw[q]at this;exact ft this
  |some y=>rw[q]at this;rw[dW.mp (show gP y n=true from this)]
 .rw[<-nl]at l1 l2⊢
  refine Cs (nJ.mp X.j) rfl (nJ.mp X.i) (kG.mp X.h) (kG.mp X.g) nd (fy X.n) ?_ l1 l2;exact(Mx hK X.p).imp id λ⟨T,o,n,e1,e2,e3⟩=>⟨T,o,n,e1,keep _ _ e2,e3⟩

section
def Z6(P:Params):Bool:=(List.range 74).all λk=>match IJ k with
 |some v=>(match (hz P).nsMap mainGlobals (SJ.getD k "")with
  |some u=>(ckV (KF P) v u).V
  |none=>false)
 |none=>true
noncomputable def Ub(a:Nat):V9->Bool
 |some (.ref b)=>Nat.beq a b
 |_=>false
theorem FN{a:Nat}{x:V9}(h:Ub a x=true):x=some (.ref a):=by
 induction x with
 |none=>exact ft h
 |some v=>induction v with
  |ref b=>exact congrArg (λb=>some (Value.ref b)) (kX (show Nat.beq a b=true from h)).symm
  |_=>exact ft h
theorem QY(P:Params):Z6 P=true:=by kernel_rfl
theorem Mc(k:Nat):IJ (k+74)=none:=by rfl
theorem BC(k:Nat):jL[k+91]?=none:=by rfl
theorem BK(k:Nat):gX (k+21)=none:=by rfl
theorem P0(P:Params):((List.range 91).all λf=> !NL.b f||Ub (oH.getD f 0) ((hz P).nsMap mainGlobals (NL.c f)))=true:=by kernel_rfl
theorem Rh(P:Params):((List.range 21).all λc=>Ub (DS.getD c 0) ((hz P).nsMap mainGlobals (NL.d c)))=true:=by kernel_rfl
theorem Cm:vC iA=true:=by kernel_rfl
def vL:aae:=[qT 3 804 (.int 6 844),qT 4 806 (.int 5 842),qT 5 808 (.int 4 840),qT 6 810 (.int 1 834),qT 7 812 (.int 2 836),qT 10 818 (.int 7 846)]
theorem Mr(P:Params):gG 247 (KF P)=some (iU vL 6):=by kernel_rfl
theorem Lw(P:Params):gG 1 (KF P)=some (boot_o_1 P):=by kernel_rfl
theorem HG(P:Params):alive (boot_o_1 P)=some (boot_o_1 P):=by kernel_rfl
theorem LD(P:Params):(hz P).isNs cStatics=true/\(hz P).nsMap cStatics "sys.recursionlimit"=none:=⟨by kernel_rfl,by kernel_rfl⟩
abbrev CC(w:World)(h:Heap)(l:Addr)(ns:S1):dX:={d:=PW,w:=w,b:=h,K:=EJ w.params,f:=(hz w.params).nsMap mainGlobals,g:=(hz w.params).nsMap builtinsNs,j:=l,k:=ns,i:=247,e:=λf=>oH.getD f 0,n:=NL.c,a:=λc=>DS.getD c 0,o:=NL.d,l:=NL.e,c:=NL.a,h:=116}
variable{w:World}{os:OsState}{s:Shared}{h:Heap}{l:Addr}{ns:S1}
theorem sQ(L:oK w os s)(k:∀b o,s.heap.get? b=some o->h.get? b=some o):Ai (KF w.params) h:=by
 intro a o e;have:=L.I (a:=a) (o:=o) e
 induction al:alive o with
 |none=>exact .inr rfl
 |some o'=>rw[al]at this;exact .inl (k _ _ this)
theorem SO{f:Nat}{x:FI}{P:Params}(hf:f<91)(hx:EM f=some x):gG (oH.getD f 0) (KF P)=some (I6 x.b x.q x.d x.m (.ref x.c)):=by
 have h1:=kX (aJ.mp VV f (cE.mpr hf));have h2:=Q7 P;have h3:(λf=>gG (EL f).1 (KF P)) f=(λf=>some (EL f).2) f:=bV.mp h2 f (cE.mpr hf)
 dsimp only at h3
 rw[h1]at h3
 rw[h3];unfold EL;rw[hx]
theorem Gm(P:Params){f:Nat}(hf:f<91):tC (KF P) f=true:=by
 by_cases h0:f<20
 .exact aJ.mp (aw P) f (dc.mpr ⟨by exact kQ fU ja [] rfl,by exact fJ ja (.a fU iT) [.b ja iT] rfl h0⟩)
 by_cases h1:f<40
 .exact aJ.mp (am P) f (dc.mpr ⟨by exact kQ iT ja [.a iT ja] rfl (cH h0),by exact fJ ja (.a iT iT) [.b ja zW] rfl h1⟩)
 by_cases h2:f<60
 .exact aJ.mp (ad P) f (dc.mpr ⟨by exact kQ zW ja [.a zW ja] rfl (cH h1),by exact fJ ja (.a zW iT) [.b ja ki] rfl h2⟩)
 by_cases h3:f<80
 .exact aJ.mp (ac P) f (dc.mpr ⟨by exact kQ ki ja [.a ki ja] rfl (cH h2),by exact fJ ja (.a ki iT) [.b ja zV] rfl h3⟩)
 .exact aJ.mp (ab P) f (dc.mpr ⟨by exact kQ zV ja [.a zV ja] rfl (cH h3),by exact fJ ja (.a zV (.n 11)) [.b ja (.n 91)] rfl hf⟩)
theorem ML{C:dX}{cl:CL}{n:Nat}(H:Hy ⟨C,NL,cl,n⟩){f:Nat}(hf:f<91):qs H f=true:=by
 by_cases h0:f<20
 .exact aJ.mp (Wx H) f (dc.mpr ⟨by exact kQ fU ja [] rfl,by exact fJ ja (.a fU iT) [.b ja iT] rfl h0⟩)
 by_cases h1:f<40
 .exact aJ.mp (Ww H) f (dc.mpr ⟨by exact kQ iT ja [.a iT ja] rfl (cH h0),by exact fJ ja (.a iT iT) [.b ja zW] rfl h1⟩)
 by_cases h2:f<60
 .exact aJ.mp (Wv H) f (dc.mpr ⟨by exact kQ zW ja [.a zW ja] rfl (cH h1),by exact fJ ja (.a zW iT) [.b ja ki] rfl h2⟩)
 by_cases h3:f<80
 .exact aJ.mp (Wu H) f (dc.mpr ⟨by exact kQ ki ja [.a ki ja] rfl (cH h2),by exact fJ ja (.a ki iT) [.b ja zV] rfl h3⟩)
 .exact aJ.mp (Wt H) f (dc.mpr ⟨by exact kQ zV ja [.a zV ja] rfl (cH h3),by exact fJ ja (.a zV (.n 11)) [.b ja (.n 91)] rfl hf⟩)
theorem Rj(P:Params){c:Nat}(hc:c<21):Jx P c=true:=aJ.mp (Wn P) c (cE.mpr hc)
theorem QN{α β:Type}{f g:α->β}:∀{l:List α},l.map f=l.map g->∀x∈l,f x=g x:=λh x hx=>bV.mp h x hx
theorem zG{α:Type}{a:Nat}{o:α}:∀{K:List (Nat×α)},K.lookup a=some o->(a,o)∈K
 |[],e=>by exact nn e
 |(b,x)::r,e=>by
  rw[dJ]at e
  by_cases q:a=b
  .subst q;simp at e;subst e;exact aj
  .rw[beq_eq_false_iff_ne.mpr q]at e;exact af _ (zG e)
theorem LV{P:Params}{c:Nat}(hK:Ai (KF P) h)(hc:c<21):Frag.In (EJ P c) h:=by
 intro a o e;have hm:(a,o)∈(AD P).flatten:=by have hl:(AD P).length=21:=rfl;refine List.mem_flatten.mpr ⟨EJ P c,?_,zG e⟩;unfold EJ;rw[gA,b7 (hl▸hc)];exact List.getElem_mem _
 have:=QN (VJ P) _ hm;dsimp only at this
 obtain⟨o1,e1,e2⟩:=lF.mp this;exact hK.at e1 e2
theorem HQ{ms:aaw}{n f:Nat}(h:ms.lookup n=some f)(ha:ms.all (λp=>Nat.blt p.1 116)=true):n<116:=by have hm:(n,f)∈ms:=zG h;exact fy (aJ.mp ha _ hm)
theorem MB{P:Params}{c:Nat}{k:iJ}(hP:w.params=P)(hK:Ai (KF P) h)(hk:gX c=some k):lE (CC w h l ns) c k:=by
 subst hP;have hc:c<21:=by
  rcases pG c 21 with q|q
  .exact q
  .obtain⟨d,rfl⟩:=Nat.exists_eq_add_of_le q;rw[fE,BK]at hk;exact nn hk
 have hB:=Rj w.params hc;unfold Jx at hB
 rw[hk]at hB
 unfold Ym at hB
 simp only[bg]at hB
 obtain⟨⟨⟨⟨⟨⟨⟨⟨⟨⟨h1,h2⟩,h3⟩,h4⟩,h5⟩,h6⟩,h7⟩,h8⟩,h9⟩,Ae⟩,h11⟩:=hB;refine⟨LV hK hc,h1,h2,h3,Gg h4,λn hn hl=>?_,λn f hn=>?_,h8,h9,?_⟩
 .have z:=aJ.mp h6 n (cE.mpr hl);unfold JA at z
  rw[vZ,hn]at z
  exact H6 h5 (λv hv=>aJ.mp z v hv) hl
 .have hl:=HQ hn h7;have z:=aJ.mp h6 n (cE.mpr hl);unfold JA at z
  rw[vZ,hn]at z
  simp only[bg]at z
  refine⟨hl,Ge z.1.2,?_⟩;unfold isFn;show(typeIn (EJ w.params c) (.ref (oH.getD f 0))==some (.type "function"))=true;rw[yp z.2];decide
 .unfold Sz at Ae
  split
  .rename_i f e;rw[e]at Ae
   simp only[bg]at Ae
   exact⟨Ge Ae.1,yp Ae.2⟩
  .rename_i e;rw[e]at Ae
   rw[e]at h11
   exact⟨Gg Ae,nJ.mp h11⟩
end

variable{w:World}{os:OsState}{s:Shared}{h:Heap}{l:Addr}{ns:S1}
theorem Wc(k:Int):findBy (intKind PW w).is vL.toArray k=if k=3 then some (.int 6 844)else if k=4 then some (.int 5 842)else if k=5 then some (.int 4 840)else if k=6 then some (.int 1 834)else if k=7 then some (.int 2 836)else if k=10 then some (.int 7 846)else none:=by
 show findBy Value.isInt _ _=_;unfold findBy vL qT;rw[<-Array.find?_toList];simp only[bK,List.find?_nil,Value.isInt];by_cases h3:k=3
 .subst h3;rfl
 by_cases h4:k=4
 .subst h4;rfl
 by_cases h5:k=5
 .subst h5;rfl
 by_cases h6:k=6
 .subst h6;rfl
 by_cases h7:k=7
 .subst h7;rfl
 by_cases Ae:k=10
 .subst Ae;rfl
 rw[beq_eq_false_iff_ne.mpr (gE h3),beq_eq_false_iff_ne.mpr (gE h4),beq_eq_false_iff_ne.mpr (gE h5),beq_eq_false_iff_ne.mpr (gE h6),beq_eq_false_iff_ne.mpr (gE h7),beq_eq_false_iff_ne.mpr (gE Ae),if_neg h3,if_neg h4,if_neg h5,if_neg h6,if_neg h7,if_neg Ae];rfl
theorem Rc(k:Int)(d:PV)(G:PV->Prop)(e:sU (.d k) d G):(G d/\findBy (intKind PW w).is vL.toArray k=none)\/∃j t,G (.d j)/\findBy (intKind PW w).is vL.toArray k=some (.int j t):=by
 rw[Wc];change G (if k=3 then .d 6 else if k=4 then .d 5 else if k=5 then .d 4 else if k=6 then .d 1 else if k=7 then .d 2 else if k=10 then .d 7 else d)at e
 by_cases h3:k=3
 .rw[if_pos h3]at e⊢;exact .inr ⟨_,_,e,rfl⟩
 rw[if_neg h3]at e⊢
 by_cases h4:k=4
 .rw[if_pos h4]at e⊢;exact .inr ⟨_,_,e,rfl⟩
 rw[if_neg h4]at e⊢
 by_cases h5:k=5
 .rw[if_pos h5]at e⊢;exact .inr ⟨_,_,e,rfl⟩
 rw[if_neg h5]at e⊢
 by_cases h6:k=6
 .rw[if_pos h6]at e⊢;exact .inr ⟨_,_,e,rfl⟩
 rw[if_neg h6]at e⊢
 by_cases h7:k=7
 .rw[if_pos h7]at e⊢;exact .inr ⟨_,_,e,rfl⟩
 rw[if_neg h7]at e⊢
 by_cases Ae:k=10
 .rw[if_pos Ae]at e⊢;exact .inr ⟨_,_,e,rfl⟩
 rw[if_neg Ae]at e⊢
 exact .inl ⟨e,rfl⟩
theorem Rb(hK:Ai (KF w.params) h):h.MapOf (intKind PW w) 247 (λk=>findBy (intKind PW w).is vL.toArray k):=by
 have e:=hK.at (Mr w.params) (o':=iU vL 6) rfl
 refine⟨_,vL.toArray,6,e,⟨rfl,rfl,rfl⟩,rfl,?_,λk=>rfl⟩
 intro en he;have YX:en∈vL:=by simpa using he
 simp only[vL,aF,gm,or_false]at YX
 rcases YX with rfl|rfl|rfl|rfl|rfl|rfl
 .exact⟨3,rfl,by kernel_rfl⟩
 .exact⟨4,rfl,by kernel_rfl⟩
 .exact⟨5,rfl,by kernel_rfl⟩
 .exact⟨6,rfl,by kernel_rfl⟩
 .exact⟨7,rfl,by kernel_rfl⟩
 .exact⟨10,rfl,by kernel_rfl⟩
theorem VP:∀a b,a<(CC w h l ns).h->b<(CC w h l ns).h->(CC w h l ns).c a=(CC w h l ns).c b->a=b:=by
 intro a b ha hb e;have nd:=qQ Cm;have hl:iA.length=116:=by rfl
 have e':iA.getD a ""=iA.getD b "":=e;rw[gA,gA,b7 (by rw[hl];exact ha),b7 (by rw[hl];exact hb)]at e'
 exact(List.getElem_inj nd).mp e'
theorem ZK(w:World)(h:Heap)(l:Addr)(ns:S1):(CC w h l ns).c 10="append"/\(CC w h l ns).c 37="pop"/\(CC w h l ns).c 21="get":=⟨by kernel_rfl,by kernel_rfl,by kernel_rfl⟩
theorem p8{α:Type}{g:Nat->Option α}{m k:Nat}{v:α}(far:∀d,g (d+m)=none)(e:g k=some v):k<m:=by
 rcases pG k m with q|q
 .exact q
 .obtain⟨d,rfl⟩:=Nat.exists_eq_add_of_le q;rw[fE,far]at e;exact nn e
theorem Sj(k:∀b o,s.heap.get? b=some o->h.get? b=some o){a:Addr}(hn:(hz w.params).isNs a=true)(hg:s.heap.get? a=(hz w.params).get? a):h.Ns a ((hz w.params).nsMap a):=by
 have:s.heap.isNs a=true:=(fO hg).trans hn;have:=Heap.Ns.of_isNs this;rw[gu hg]at this
 exact this.keeps k
theorem Z7(hK:Ai (KF w.params) h){k:Nat}{v:PV}(hv:IJ k=some v):∃u,(hz w.params).nsMap mainGlobals (NL.e k)=some u/\VR (CC w h l ns) W0 h v u:=by
 have hk:=p8 Mc hv;have z:=aJ.mp (QY w.params) k (cE.mpr hk);rw[hv]at z
 dsimp only at z
 split at z
 .rename_i u hu;exact⟨u,hu,Ck.of z hK rfl⟩
 .exact ft z
theorem Ri{c:Nat}{k:iJ}(hk:gX c=some k):(hz w.params).nsMap mainGlobals (NL.d c)=some (.ref (DS.getD c 0)):=FN (aJ.mp (Rh w.params) c (cE.mpr (p8 BK hk)))
theorem Qa:CH.length=91:=by rfl
theorem UU{f:Nat}(hf:NL.b f=true):(hz w.params).nsMap mainGlobals (NL.c f)=some (.ref (oH.getD f 0)):=by
 have hl:f<91:=by
  rcases pG f 91 with q|q
  .exact q
  .have:NL.b f=false:=by show CH.getD f false=false;rw[gA,aV (by rw[Qa];exact q)];rfl
   rw[this]at hf;exact ft hf
 have z:=aJ.mp (P0 w.params) f (cE.mpr hl);rw[hf]at z
 exact FN (by simpa using z)
theorem Q6(hK:Ai (KF w.params) h){f:Nat}{mf:bH}(hf:jL[f]?=some mf):∃o fd,h.get? (oH.getD f 0)=some o/\o.data=.func fd:=by
 have hl:=p8 BC hf;have z:=Gm w.params hl;unfold tC at z
 rw[hf]at z
 induction h2:EM f with
 |none=>rw[h2]at z;exact ft z
 |some x=>exact⟨_,_,hK.at (SO hl h2) rfl,rfl⟩
theorem Hp{o:Obj}{items:WA}{n:Nat}(e1:h.get? l=some o)(e2:o.cls=.type "list")(e3:o.data=.seq items n)(e4:IntsAre items.toList ns)(e5:ns.length<=63):∃items,h.IsList l items/\IntsAre items.toList ns/\items.size<=1000:=by
 refine⟨items,⟨o,e1,e2,n,e3⟩,e4,?_⟩;have:=e4.length;have hs:items.size=items.toList.length:=by simp
 exact pR ja oR [.a jb (.n 63),.f jc jb,.f ja jc] rfl e5 this hs
theorem FX(w:World)(h:Heap)(l:Addr)(ns:S1):(CC w h l ns).f "len"=none/\(CC w h l ns).g "len"=some (.builtin "len"):=⟨by kernel_rfl,by kernel_rfl⟩
theorem FV(w:World)(h:Heap)(l:Addr)(ns:S1):(CC w h l ns).f "sorted"=none/\(CC w h l ns).g "sorted"=some (.builtin "sorted"):=⟨by kernel_rfl,by kernel_rfl⟩
theorem FM(w:World)(h:Heap)(l:Addr)(ns:S1):(CC w h l ns).f "tuple"=none/\(CC w h l ns).g "tuple"=some (.type "tuple"):=⟨by kernel_rfl,by kernel_rfl⟩
theorem FK(w:World)(h:Heap)(l:Addr)(ns:S1):(CC w h l ns).f "str"=none/\(CC w h l ns).g "str"=some (.type "str"):=⟨by kernel_rfl,by kernel_rfl⟩
theorem FC(w:World)(h:Heap)(l:Addr)(ns:S1):(CC w h l ns).f "range"=none/\(CC w h l ns).g "range"=some (.type "range"):=⟨by kernel_rfl,by kernel_rfl⟩
theorem FB(w:World)(h:Heap)(l:Addr)(ns:S1):(CC w h l ns).f "reversed"=none/\(CC w h l ns).g "reversed"=some (.type "reversed"):=⟨by kernel_rfl,by kernel_rfl⟩
theorem Wb:((247:Nat)==sysModules)=false:=by decide
theorem Wa(hK:Ai (KF w.params) h):∃f:Int->V9,h.MapOf (intKind PW w) 247 f/\∀(k:Int)(d:PV)(G:PV->Prop),sU (.d k) d G->(G d/\f k=none)\/∃j t,G (.d j)/\f k=some (.int j t):=⟨_,Rb hK,λk d G e=>Rc k d G e⟩
theorem Ru{o:Obj}{items:WA}{n:Nat}(L:oK w os s)(k:∀b o,s.heap.get? b=some o->h.get? b=some o)(e1:h.get? l=some o)(e2:o.cls=.type "list")(e3:o.data=.seq items n)(e4:IntsAre items.toList ns)(e5:ns.length<=63):Ff (CC w h l ns) NL where
 i:=Sj k (r5 _) L.bt'
 w:=Sj k (BA _) L.bv'
 h:=bS ((sQ L k).at (Lw w.params) (HG w.params))
 B:=rfl
 E:=rfl
 z:=rfl
 g:=rfl
 b:=⟨VP,rfl⟩
 y:=λJ J hv=>Z7 (sQ L k) hv
 a:=λJ J hk=>MB rfl (sQ L k) hk
 F:=λJ J hk=>Ri hk
 m:=λJ hf=>UU hf
 A:=λJ J hf=>Q6 (sQ L k) hf
 q:=Hp e1 e2 e3 e4 e5
 D:=⟨Wb,Wa (sQ L k)⟩
 e:=ZK _ _ _ _
 x:=FX _ _ _ _
 p:=FV _ _ _ _
 l:=FM _ _ _ _
 n:=FK _ _ _ _
 s:=FC _ _ _ _
 r:=FB _ _ _ _
theorem Q2{o:Obj}(L:oK w os s)(k:∀b o,s.heap.get? b=some o->h.get? b=some o):∀f mf,jL[f]?=some mf->∃o fd body sl names eZ,AO (CC w h l ns) NL f mf o fd body sl names eZ:=by
 intro f mf hf;have hK:=sQ L k;have hl:=p8 BC hf;have z:=Gm w.params hl;unfold tC at z
 rw[hf]at z
 induction h2:EM f with
 |none=>rw[h2]at z;exact ft z
 |some x=>
  rw[h2]at z
  obtain⟨eZ,X⟩:=Ck.of z;refine⟨_,_,_,_,_,_,Mf hK rfl ?_ ?_ (hK.at (SO hl h2) rfl) Mj X λH=>?_⟩
  .intro p hp;obtain⟨o,e1,e2⟩:=L.c p hp;have e3:=kH e1;have al:alive o=some o:=by
    unfold uR at e2
    unfold alive;obtain⟨c,d,dt,sl⟩:=o
    induction dt<;>first|rfl|(simp at e2)
   rw[al]at e3
   exact Ic (k _ _ e3) e2
  .obtain⟨n1,n2⟩:=LD w.params;have hg:=L.bu';have:s.heap.isNs cStatics=true:=(fO hg).trans n1;have:=Heap.Ns.of_isNs this;rw[gu hg]at this
   exact⟨_,this.keeps k,n2⟩
  .have:=ML H hl;unfold qs at this
   rw[hf,h2]at this
   exact this
theorem QT:Gy:=by
 intro w os s cu l o items n ns L keeps hl e1 e2 e3 e4 e5 hg;have B:=Ru (ns:=ns) L keeps e1 e2 e3 e4 e5;have F:=Q2 (o:=o) (l:=l) (ns:=ns) L keeps;have X:nG (CC w cu.heap l ns) (gI 15) 15:=Wq B F 15;refine wpAny_call ?_;have R0:w4 (CC w cu.heap l ns) W0 cu.heap ⟨[],[],[]⟩:=⟨λb o e=>⟨rfl,e⟩,λJ J J e=>(nomatch (e:(none:aaa)=some _)),λJ J e=>(nomatch (e:(none:aaa)=some _)),λJ J J e=>(nomatch (e:(none:aaa)=some _)),λJ J J e=>(nomatch (e:(none:aaa)=some _))⟩
 have room:mT callerA (2*15+1):=⟨rfl,by show 1+claimMargin+(2*15+1)+4<=recursionLimit;unfold claimMargin recursionLimit;decide,by show 4+5*(2*15+1)+60<cLine;unfold cLine;decide⟩
 refine X (p:=⟨W0,cu,⟨[],[],[]⟩,R0⟩) (f:=90) (vs:=[.a (.n ns)]) room ⟨_,_,rfl,⟨rfl,rfl⟩,rfl⟩ (ZW ns) λq v u E V hv=>?_
 subst hv;obtain rfl:=(show u=.bool true from V)
 exact⟨rfl,λb o e=>(q.r.i b o e).2,by rw[E.w],by rw[E.w];exact hg⟩
theorem XI:LW.Holds:=L8 QT

end
end au
end
theorem PySem.Challenge.cw_rh0144_01_holds : PySem.Challenge.rw_rh0144_01.Holds :=
 au.XI
